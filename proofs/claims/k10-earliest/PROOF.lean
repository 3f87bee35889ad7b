import PyProof.Rows.All
import Wide.All
import OpenK.AllK
import Wide.FinOn
import HandS.ForMost
import HandS.ForExc
import HandS.IsInst
import HandS.ExcIs
import HandS.Deep
import HandS.Flow
import HandS.Conv
import HandS.More
import HandS.CallSlots
import HandS.ExcValue
import HandS.TupAny
import HandS.Iter
import HandS.Defaults
import HandS.SetFor
import HandS.ExcInit
import HandS.SortKw
import HandS.OwnEq
import HandS.Strs
import HandS.SortInts
import KE.KExcIs
import PySem.Challenge.RW_turnstile_k10_whole_earliest
set_option Elab.async false
set_option linter.all false
set_option maxRecDepth 100000
set_option maxHeartbeats 4000000
/-! ## The data layer: values as data (Dv), a store of mutable objects (M), what stands for what -/
namespace DL
open PySem PySem.Spec L2

inductive Dv where
  | non | bl (b : Bool) | int (i : Int) | str (x : Str) | ty (n : String) | obj (a : Addr)
  | tup (xs : List Dv) | lst (xs : List Dv) | fro (xs : List Dv)
  | ins (C : Addr) (fs : List (Str × Dv)) | exc (C : Addr) (fs : List (Str × Dv))
/-- a mutable object: an instance, a list, a dict; a dict that is walked -/
inductive MO where
  | ins (C : Addr) (fs : List (Str × Dv)) | lst (xs : List Dv) | dic (kvs : List (Key × Dv)) | fdc (kvs : List (Key × Dv))
abbrev M := Addr → Option MO
abbrev Kf := PySem.W.Frag
def updM (μ : M) (a : Addr) (o : MO) : M := fun b => if b = a then some o else μ b
def delM (μ : M) (a : Addr) : M := fun b => if b = a then none else μ b
theorem updM_same {μ : M} {a : Addr} {o : MO} : updM μ a o a = some o := by unfold updM; rw [if_pos rfl]
theorem updM_ne {μ : M} {a b : Addr} {o : MO} (h : b ≠ a) : updM μ a o b = μ b := by unfold updM; rw [if_neg h]
theorem updM_updM {μ : M} {a : Addr} {o u : MO} : updM (updM μ a o) a u = updM μ a u := by funext b; unfold updM; split <;> rfl
theorem delM_same {μ : M} {a : Addr} : delM μ a a = none := by unfold delM; rw [if_pos rfl]
theorem delM_ne {μ : M} {a b : Addr} (h : b ≠ a) : delM μ a b = μ b := by unfold delM; rw [if_neg h]
theorem delM_updM {μ : M} {a : Addr} {o : MO} (h : μ a = none) : delM (updM μ a o) a = μ := by
  funext b
  by_cases e : b = a
  · rw [e, delM_same, h]
  · rw [delM_ne e, updM_ne e]
theorem updM_comm {μ : M} {a b : Addr} {o u : MO} (h : a ≠ b) : updM (updM μ a o) b u = updM (updM μ b u) a o := by
  funext c
  by_cases e : c = a
  · subst e; rw [updM_ne h, updM_same, updM_same]
  · by_cases f : c = b
    · subst f; rw [updM_same, updM_ne e, updM_same]
    · rw [updM_ne f, updM_ne e, updM_ne e, updM_ne f]
theorem ne_ofM {μ : M} {a b : Addr} {o : MO} (h : μ a = some o) (h' : μ b = none) : a ≠ b := by intro e; subst e; rw [h] at h'; cases h'

/-- an exception object of the class cls (own dict d) at a -/
def ExD (cls : Value) (d : Option Addr) (a : Addr) : HO := .ext fun h => ∃ (oe : Obj) (vs : Array Value), h.get? a = some oe ∧ Zc cls d oe ∧ oe.data = .fields vs
/-- a list of the written part -/
def KLst (K : Kf) (a : Addr) (xs : List V) : Prop := ∃ (o : Obj) (its : Array Value) (n : Nat), K.lookup a = some o ∧ o.cls = .type "list" ∧ o.dict = none ∧ o.data = .seq its n ∧ its.size ≤ sizeLine ∧ Vals xs its.toList
mutual
inductive DRep (K : Kf) (μ : M) (H : Hp) : V → Dv → Prop where
  | non : DRep K μ H .non .non
  | bl (b : Bool) : DRep K μ H (.bl b) (.bl b)
  | int (i : Int) : DRep K μ H (.int i) (.int i)
  | str (x : Str) : DRep K μ H (.str x) (.str x)
  | ty (n : String) : DRep K μ H (.ty n) (.ty n)
  | obj (a : Addr) : DRep K μ H (.ref a) (.obj a)
  | tup {a : Addr} {vs : List V} {ds : List Dv} (h : H a = some (.tup vs)) (n : μ a = none) (r : DReps K μ H vs ds) : DRep K μ H (.ref a) (.tup ds)
  | lst {a : Addr} {vs : List V} {ds : List Dv} (h : H a = some (.lst vs)) (n : μ a = none) (r : DReps K μ H vs ds) : DRep K μ H (.ref a) (.lst ds)
  | fro {a : Addr} {vs : List V} {ds : List Dv} (h : Rd H a (.lst vs)) (n : μ a = none) (r : DReps K μ H vs ds) : DRep K μ H (.ref a) (.fro ds)
  | frk {a : Addr} {vs : List V} {ds : List Dv} (h : KLst K a vs) (r : DReps K μ H vs ds) : DRep K μ H (.ref a) (.fro ds)
  | ins {a C dx : Addr} {vs : List (Str × V)} {fs : List (Str × Dv)} (h : H a = some (.ins C dx vs)) (n : μ a = none) (r : DFlds K μ H vs fs) : DRep K μ H (.ref a) (.ins C fs)
  | exc0 {a C : Addr} (h : H a = some (ExD (.ref C) none a)) (n : μ a = none) : DRep K μ H (.ref a) (.exc C [])
  | exc1 {a C dd : Addr} {vs : List (Str × V)} {fs : List (Str × Dv)} (h : H a = some (ExD (.ref C) (some dd) a)) (n : μ a = none) (h2 : H dd = some (.xd vs)) (n2 : μ dd = none) (r : DFlds K μ H vs fs) : DRep K μ H (.ref a) (.exc C fs)
inductive DReps (K : Kf) (μ : M) (H : Hp) : List V → List Dv → Prop where
  | nil : DReps K μ H [] []
  | cons {v : V} {d : Dv} {vs : List V} {ds : List Dv} (h : DRep K μ H v d) (t : DReps K μ H vs ds) : DReps K μ H (v :: vs) (d :: ds)
inductive DFlds (K : Kf) (μ : M) (H : Hp) : List (Str × V) → List (Str × Dv) → Prop where
  | nil : DFlds K μ H [] []
  | cons {f : Str} {v : V} {d : Dv} {vs : List (Str × V)} {ds : List (Str × Dv)} (h : DRep K μ H v d) (t : DFlds K μ H vs ds) : DFlds K μ H ((f, v) :: vs) ((f, d) :: ds)
end
/-- a dict's pairs -/
inductive DKvs (K : Kf) (μ : M) (H : Hp) : List (Key × V) → List (Key × Dv) → Prop where
  | nil : DKvs K μ H [] []
  | cons {f : Key} {v : V} {d : Dv} {vs : List (Key × V)} {ds : List (Key × Dv)} (h : DRep K μ H v d) (t : DKvs K μ H vs ds) : DKvs K μ H ((f, v) :: vs) ((f, d) :: ds)

/-- what is not mutable stands -/
def Step0 (μ : M) (H : Hp) (μ' : M) (H' : Hp) : Prop := ∀ a o, H a = some o → μ a = none → H' a = some o ∧ μ' a = none
/-- and a locked dict stands -/
structure Step (μ : M) (H : Hp) (μ' : M) (H' : Hp) : Prop where
  d : Step0 μ H μ' H'
  l : ∀ a o kvs, H a = some o → μ a = some (.fdc kvs) → H' a = some o ∧ μ' a = some (.fdc kvs)
theorem Step.refl (μ : M) (H : Hp) : Step μ H μ H := ⟨fun _ _ h n => ⟨h, n⟩, fun _ _ _ h n => ⟨h, n⟩⟩
theorem Step.trans {μ μ1 μ2 : M} {H H1 H2 : Hp} (s : Step μ H μ1 H1) (t : Step μ1 H1 μ2 H2) : Step μ H μ2 H2 :=
  ⟨fun a o h n => let ⟨h1, n1⟩ := s.d a o h n; t.d a o h1 n1, fun a o kvs h n => let ⟨h1, n1⟩ := s.l a o kvs h n; t.l a o kvs h1 n1⟩
section
variable {K : Kf} {μ μ' : M} {H H' : Hp}
theorem rdStep0 (s : Step0 μ H μ' H') {a : Addr} {u : HO} (n : μ a = none) (h : Rd H a u) : Rd H' a u ∧ μ' a = none := by
  rcases h with h | ⟨o, h⟩
  · exact ⟨.inl (s _ _ h n).1, (s _ _ h n).2⟩
  · exact ⟨.inr ⟨o, (s _ _ h n).1⟩, (s _ _ h n).2⟩
mutual
theorem DRep.step0 (s : Step0 μ H μ' H') : ∀ {v : V} {d : Dv}, DRep K μ H v d → DRep K μ' H' v d
  | _, _, .non => .non
  | _, _, .bl b => .bl b
  | _, _, .int b => .int b
  | _, _, .str b => .str b
  | _, _, .ty b => .ty b
  | _, _, .obj b => .obj b
  | _, _, .tup h n r => .tup (s _ _ h n).1 (s _ _ h n).2 (DReps.step0 s r)
  | _, _, .lst h n r => .lst (s _ _ h n).1 (s _ _ h n).2 (DReps.step0 s r)
  | _, _, .fro h n r => .fro (rdStep0 s n h).1 (rdStep0 s n h).2 (DReps.step0 s r)
  | _, _, .frk h r => .frk h (DReps.step0 s r)
  | _, _, .ins h n r => .ins (s _ _ h n).1 (s _ _ h n).2 (DFlds.step0 s r)
  | _, _, .exc0 h n => .exc0 (s _ _ h n).1 (s _ _ h n).2
  | _, _, .exc1 h n h2 n2 r => .exc1 (s _ _ h n).1 (s _ _ h n).2 (s _ _ h2 n2).1 (s _ _ h2 n2).2 (DFlds.step0 s r)
theorem DReps.step0 (s : Step0 μ H μ' H') : ∀ {v : List V} {d : List Dv}, DReps K μ H v d → DReps K μ' H' v d
  | _, _, .nil => .nil
  | _, _, .cons h t => .cons (DRep.step0 s h) (DReps.step0 s t)
theorem DFlds.step0 (s : Step0 μ H μ' H') : ∀ {v : List (Str × V)} {d : List (Str × Dv)}, DFlds K μ H v d → DFlds K μ' H' v d
  | _, _, .nil => .nil
  | _, _, .cons h t => .cons (DRep.step0 s h) (DFlds.step0 s t)
end
theorem DKvs.step0 (s : Step0 μ H μ' H') : ∀ {v : List (Key × V)} {d : List (Key × Dv)}, DKvs K μ H v d → DKvs K μ' H' v d
  | _, _, .nil => .nil
  | _, _, .cons h t => .cons (DRep.step0 s h) (DKvs.step0 s t)

theorem DRep.step (s : Step μ H μ' H') {v : V} {d : Dv} (h : DRep K μ H v d) : DRep K μ' H' v d := DRep.step0 s.d h
theorem DReps.step (s : Step μ H μ' H') {v : List V} {d : List Dv} (h : DReps K μ H v d) : DReps K μ' H' v d := DReps.step0 s.d h
theorem DFlds.step (s : Step μ H μ' H') {v : List (Str × V)} {d : List (Str × Dv)} (h : DFlds K μ H v d) : DFlds K μ' H' v d := DFlds.step0 s.d h
theorem DKvs.step (s : Step μ H μ' H') {v : List (Key × V)} {d : List (Key × Dv)} (h : DKvs K μ H v d) : DKvs K μ' H' v d := DKvs.step0 s.d h

theorem DKvs.keys : ∀ {v : List (Key × V)} {d : List (Key × Dv)}, DKvs K μ H v d → v.map (·.1) = d.map (·.1)
  | _, _, .nil => rfl
  | _, _, .cons _ t => congrArg (_ :: ·) t.keys
/-! ### lists of data -/
theorem DReps.length : ∀ {vs : List V} {ds : List Dv}, DReps K μ H vs ds → vs.length = ds.length
  | _, _, .nil => rfl
  | _, _, .cons _ t => congrArg (· + 1) t.length
theorem DReps.append : ∀ {vs ws : List V} {ds es : List Dv}, DReps K μ H vs ds → DReps K μ H ws es → DReps K μ H (vs ++ ws) (ds ++ es)
  | _, _, _, _, .nil, q => q
  | _, _, _, _, .cons h t, q => .cons h (t.append q)
theorem DReps.one {v : V} {d : Dv} (h : DRep K μ H v d) : DReps K μ H [v] [d] := .cons h .nil
theorem DReps.get : ∀ {vs : List V} {ds : List Dv} {i : Nat} {d : Dv}, DReps K μ H vs ds → ds[i]? = some d → ∃ v, vs[i]? = some v ∧ DRep K μ H v d
  | _, _, _, _, .nil, e => by simp at e
  | _, _, 0, _, .cons h _, e => by simp at e; subst e; exact ⟨_, rfl, h⟩
  | _, _, i + 1, d, .cons _ t, e => by
    obtain ⟨v, h1, h2⟩ := DReps.get (i := i) (d := d) t (by simpa using e)
    exact ⟨v, by simpa using h1, h2⟩
theorem DReps.getV : ∀ {vs : List V} {ds : List Dv} {i : Nat} {v : V}, DReps K μ H vs ds → vs[i]? = some v → ∃ d, ds[i]? = some d ∧ DRep K μ H v d
  | _, _, _, _, .nil, e => by simp at e
  | _, _, 0, _, .cons h _, e => by simp at e; subst e; exact ⟨_, rfl, h⟩
  | _, _, i + 1, d, .cons _ t, e => by
    obtain ⟨v, h1, h2⟩ := DReps.getV (i := i) (v := d) t (by simpa using e)
    exact ⟨v, by simpa using h1, h2⟩
theorem DReps.take : ∀ {vs : List V} {ds : List Dv} (n : Nat), DReps K μ H vs ds → DReps K μ H (vs.take n) (ds.take n)
  | _, _, 0, _ => .nil
  | _, _, _ + 1, .nil => .nil
  | _, _, n + 1, .cons h t => .cons h (DReps.take n t)
theorem DReps.drop : ∀ {vs : List V} {ds : List Dv} (n : Nat), DReps K μ H vs ds → DReps K μ H (vs.drop n) (ds.drop n)
  | _, _, 0, r => r
  | _, _, _ + 1, .nil => .nil
  | _, _, n + 1, .cons _ t => DReps.drop n t
theorem DReps.reverse : ∀ {vs : List V} {ds : List Dv}, DReps K μ H vs ds → DReps K μ H vs.reverse ds.reverse
  | _, _, .nil => .nil
  | _, _, .cons h t => by
    rw [List.reverse_cons, List.reverse_cons]
    exact t.reverse.append (.one h)
theorem DReps.dropLast {vs : List V} {ds : List Dv} (r : DReps K μ H vs ds) : DReps K μ H vs.dropLast ds.dropLast := by
  rw [List.dropLast_eq_take, List.dropLast_eq_take, r.length]
  exact r.take _
theorem DReps.replicate {v : V} {d : Dv} (h : DRep K μ H v d) : ∀ n, DReps K μ H (List.replicate n v) (List.replicate n d)
  | 0 => .nil
  | n + 1 => .cons h (DReps.replicate h n)
theorem DReps.ints : ∀ {vs : List V} {ns : List Int}, DReps K μ H vs (ns.map Dv.int) → vs = ns.map V.int
  | _, [], .nil => rfl
  | _, n :: ns, .cons h t => by
    cases h
    rw [t.ints]
    rfl
theorem DReps.strs : ∀ {vs : List V} {ns : List Str}, DReps K μ H vs (ns.map Dv.str) → vs = ns.map V.str
  | _, [], .nil => rfl
  | _, n :: ns, .cons h t => by
    cases h
    rw [t.strs]
    rfl
theorem DReps.bls : ∀ {vs : List V} {ns : List Bool}, DReps K μ H vs (ns.map Dv.bl) → vs = ns.map V.bl
  | _, [], .nil => rfl
  | _, n :: ns, .cons h t => by
    cases h
    rw [t.bls]
    rfl
theorem DReps.ofInts : ∀ ns : List Int, DReps K μ H (ns.map V.int) (ns.map Dv.int)
  | [] => .nil
  | _ :: ns => .cons (.int _) (DReps.ofInts ns)
theorem DReps.ofStrs : ∀ ns : List Str, DReps K μ H (ns.map V.str) (ns.map Dv.str)
  | [] => .nil
  | _ :: ns => .cons (.str _) (DReps.ofStrs ns)
theorem DReps.ofBls : ∀ ns : List Bool, DReps K μ H (ns.map V.bl) (ns.map Dv.bl)
  | [] => .nil
  | _ :: ns => .cons (.bl _) (DReps.ofBls ns)

/-! ### fields -/
def putD (f : Str) (v : Dv) : List (Str × Dv) → List (Str × Dv)
  | [] => [(f, v)]
  | (g, x) :: r => if g = f then (g, v) :: r else (g, x) :: putD f v r
theorem DFlds.length : ∀ {vs : List (Str × V)} {ds : List (Str × Dv)}, DFlds K μ H vs ds → vs.length = ds.length
  | _, _, .nil => rfl
  | _, _, .cons _ t => congrArg (· + 1) t.length
theorem DFlds.put {f : Str} {v : V} {d : Dv} (h : DRep K μ H v d) : ∀ {vs : List (Str × V)} {ds : List (Str × Dv)}, DFlds K μ H vs ds → DFlds K μ H (putF f v vs) (putD f d ds)
  | _, _, .nil => .cons h .nil
  | _, _, @DFlds.cons _ _ _ g x y vs ds hx t => by
    show DFlds K μ H (if g = f then (g, v) :: vs else (g, x) :: putF f v vs) (if g = f then (g, d) :: ds else (g, y) :: putD f d ds)
    by_cases e : g = f
    · rw [if_pos e, if_pos e]; exact .cons h t
    · rw [if_neg e, if_neg e]; exact .cons hx (t.put h)
theorem DFlds.get {f : Str} {d : Dv} : ∀ {vs : List (Str × V)} {ds : List (Str × Dv)}, DFlds K μ H vs ds → ds.lookup f = some d → ∃ v, vs.lookup f = some v ∧ DRep K μ H v d
  | _, _, .nil, e => by cases e
  | _, _, @DFlds.cons _ _ _ g x y vs ds hx t, e => by
    rw [List.lookup_cons] at e ⊢
    cases hb : f == g with
    | true =>
      rw [hb] at e
      cases e
      exact ⟨x, rfl, hx⟩
    | false =>
      rw [hb] at e
      exact t.get e
theorem DFlds.none {f : Str} : ∀ {vs : List (Str × V)} {ds : List (Str × Dv)}, DFlds K μ H vs ds → ds.lookup f = Option.none → vs.lookup f = Option.none
  | _, _, .nil, _ => rfl
  | _, _, @DFlds.cons _ _ _ g x y vs ds hx t, e => by
    rw [List.lookup_cons] at e ⊢
    cases hb : f == g with
    | true => rw [hb] at e; cases e
    | false =>
      rw [hb] at e
      exact t.none e

/-! ### the store -/
def MRep (K : Kf) (μ : M) (H : Hp) (a : Addr) : MO → Prop
  | .ins C fs => ∃ dx vs, H a = some (.ins C dx vs) ∧ DFlds K μ H vs fs
  | .lst ds => ∃ vs, H a = some (.lst vs) ∧ DReps K μ H vs ds
  | .dic kvs => ∃ vs, H a = some (.dK vs) ∧ DKvs K μ H vs kvs
  | .fdc kvs => ∃ o vs, H a = some (.frz o (.dK vs)) ∧ DKvs K μ H vs kvs
def Rep (K : Kf) (μ : M) (H : Hp) : Prop := ∀ a o, μ a = some o → MRep K μ H a o
theorem MRep.tracked {a : Addr} {o : MO} (h : MRep K μ H a o) : H a ≠ Option.none := by
  cases o with
  | ins C fs => obtain ⟨_, _, e, _⟩ := h; rw [e]; simp
  | lst ds => obtain ⟨_, e, _⟩ := h; rw [e]; simp
  | dic ds => obtain ⟨_, e, _⟩ := h; rw [e]; simp
  | fdc ds => obtain ⟨_, _, e, _⟩ := h; rw [e]; simp
theorem Rep.free (r : Rep K μ H) {a : Addr} (h : H a = Option.none) : μ a = Option.none := by
  cases e : μ a with
  | none => rfl
  | some o => exact absurd h (r a o e).tracked
/-- the object itself stands, all that is not mutable stands -/
theorem MRep.step0 (s : Step0 μ H μ' H') {a : Addr} {o : MO} (ha : H' a = H a) (h : MRep K μ H a o) : MRep K μ' H' a o := by
  cases o with
  | ins C fs => obtain ⟨dx, vs, e, r⟩ := h; exact ⟨dx, vs, ha.trans e, DFlds.step0 s r⟩
  | lst ds => obtain ⟨vs, e, r⟩ := h; exact ⟨vs, ha.trans e, DReps.step0 s r⟩
  | dic ds => obtain ⟨vs, e, r⟩ := h; exact ⟨vs, ha.trans e, DKvs.step0 s r⟩
  | fdc ds => obtain ⟨o, vs, e, r⟩ := h; exact ⟨o, vs, ha.trans e, DKvs.step0 s r⟩
theorem MRep.step (s : Step μ H μ' H') {a : Addr} {o : MO} (ha : H' a = H a) (h : MRep K μ H a o) : MRep K μ' H' a o := MRep.step0 s.d ha h
/-- a new object that is data -/
theorem Step.new {p : Addr} {o : HO} (h : H p = Option.none) : Step μ H μ (upd H p o) := ⟨fun a u e n => ⟨by rw [upd_ne (ne_of_none e h)]; exact e, n⟩, fun a u _ e n => ⟨by rw [upd_ne (ne_of_none e h)]; exact e, n⟩⟩
theorem Rep.new {p : Addr} {o : HO} (r : Rep K μ H) (h : H p = Option.none) : Rep K μ (upd H p o) := fun a u e =>
  (r a u e).step (Step.new h) (upd_ne (by intro z; subst z; exact (r a u e).tracked h))
/-- a new mutable object -/
theorem Step.newM {p : Addr} {o : HO} {u : MO} (h : H p = Option.none) : Step μ H (updM μ p u) (upd H p o) :=
  ⟨fun a v e n => ⟨by rw [upd_ne (ne_of_none e h)]; exact e, by rw [updM_ne (ne_of_none e h)]; exact n⟩,
    fun a v _ e n => ⟨by rw [upd_ne (ne_of_none e h)]; exact e, by rw [updM_ne (ne_of_none e h)]; exact n⟩⟩
theorem Rep.put {p : Addr} {o : HO} {u : MO} (r : Rep K μ H) (s : Step μ H (updM μ p u) (upd H p o)) (new : MRep K (updM μ p u) (upd H p o) p u) : Rep K (updM μ p u) (upd H p o) := fun a v e => by
  by_cases z : a = p
  · subst z
    rw [updM_same] at e
    cases e
    exact new
  · rw [updM_ne z] at e
    exact (r a v e).step s (upd_ne z)
/-- a mutable object is changed -/
theorem Step.mut {p : Addr} {o : HO} {u v : MO} (h : μ p = some v) (hv : ∀ k, v ≠ .fdc k := by intro k z; cases z) : Step μ H (updM μ p u) (upd H p o) :=
  ⟨fun a w e n =>
    have z : a ≠ p := fun z => by rw [z, h] at n; cases n
    ⟨by rw [upd_ne z]; exact e, by rw [updM_ne z]; exact n⟩, fun a w k e n =>
    have z : a ≠ p := fun z => by rw [z, h] at n; exact hv k (Option.some.inj n)
    ⟨by rw [upd_ne z]; exact e, by rw [updM_ne z]; exact n⟩⟩
/-- a mutable object becomes data -/
theorem Step.freeze {p : Addr} {v : MO} (h : μ p = some v) (hv : ∀ k, v ≠ .fdc k := by intro k z; cases z) : Step μ H (delM μ p) H := ⟨fun a w e n => ⟨e, by
    by_cases z : a = p
    · rw [z, delM_same]
    · rw [delM_ne z]; exact n⟩, fun a w k e n => ⟨e, by
    have z : a ≠ p := fun z => by rw [z, h] at n; exact hv k (Option.some.inj n)
    rw [delM_ne z]; exact n⟩⟩
theorem Rep.freeze {p : Addr} {w : MO} (r : Rep K μ H) (h : μ p = some w) (hv : ∀ k, w ≠ .fdc k := by intro k z; cases z) : Rep K (delM μ p) H := fun a v e => by
  by_cases z : a = p
  · subst z; rw [delM_same] at e; cases e
  · rw [delM_ne z] at e
    exact (r a v e).step (Step.freeze h hv) rfl

/-! ### the names -/
abbrev En := List (Option Dv)
def Env (K : Kf) (μ : M) (H : Hp) (σ : St) (e : En) : Prop := σ.length = e.length ∧ ∀ (i : Nat) (d : Dv), e[i]? = some (some d) → ∃ v, σ[i]? = some (some v) ∧ DRep K μ H v d
theorem Env.step {σ : St} {e : En} (s : Step μ H μ' H') (h : Env K μ H σ e) : Env K μ' H' σ e := ⟨h.1, fun i d q => let ⟨v, a, b⟩ := h.2 i d q; ⟨v, a, b.step s⟩⟩
theorem Env.set {σ : St} {e : En} {v : V} {d : Dv} (h : Env K μ H σ e) (r : DRep K μ H v d) (i : Nat) : Env K μ H (σ.set i (some v)) (e.set i (some d)) := by
  refine ⟨by rw [List.length_set, List.length_set]; exact h.1, fun j x q => ?_⟩
  by_cases z : i = j
  · subst z
    by_cases hl : i < e.length
    · rw [List.getElem?_set_self hl] at q
      cases q
      exact ⟨v, List.getElem?_set_self (by rw [h.1]; exact hl), r⟩
    · rw [List.getElem?_eq_none (by rw [List.length_set]; omega)] at q
      cases q
  · rw [List.getElem?_set_ne z] at q ⊢
    exact h.2 j x q
/-- a name forgotten -/
theorem Env.unset {σ : St} {e : En} (h : Env K μ H σ e) (o : Option V) (i : Nat) : Env K μ H (σ.set i o) (e.set i Option.none) := by
  refine ⟨by rw [List.length_set, List.length_set]; exact h.1, fun j x q => ?_⟩
  by_cases z : i = j
  · subst z
    by_cases hl : i < e.length
    · rw [List.getElem?_set_self hl] at q
      cases q
    · rw [List.getElem?_eq_none (by rw [List.length_set]; omega)] at q
      cases q
  · rw [List.getElem?_set_ne z] at q ⊢
    exact h.2 j x q
def wipeE (e : En) : List Nat → En
  | [] => e
  | v :: vs => (wipeE e vs).set v Option.none
theorem Env.wipe {σ : St} {e : En} (h : Env K μ H σ e) : ∀ vs : List Nat, Env K μ H (wipe σ vs) (wipeE e vs)
  | [] => h
  | v :: vs => (h.wipe vs).unset _ v
/-- less is told -/
def LeE (e e' : En) : Prop := e.length = e'.length ∧ ∀ (i : Nat) (d : Dv), e'[i]? = some (some d) → e[i]? = some (some d)
theorem Env.le {σ : St} {e e' : En} (h : Env K μ H σ e) (l : LeE e e') : Env K μ H σ e' := ⟨h.1.trans l.1, fun i d q => h.2 i d (l.2 i d q)⟩
theorem Env.start : ∀ {vs : List V} {ds : List Dv} (n : Nat), DReps K μ H vs ds → Env K μ H (vs.map some ++ List.replicate n Option.none) (ds.map some ++ List.replicate n Option.none) := fun {vs ds} n r => by
  refine ⟨by simp [r.length], fun i d q => ?_⟩
  by_cases z : i < ds.length
  · rw [List.getElem?_append_left (by simpa using z), List.getElem?_map] at q
    cases e : ds[i]? with
    | none => rw [e] at q; cases q
    | some x =>
      rw [e] at q
      cases q
      obtain ⟨v, h1, h2⟩ := r.get e
      refine ⟨v, ?_, h2⟩
      rw [List.getElem?_append_left (by simpa [r.length] using z), List.getElem?_map, h1]
      rfl
  · rw [List.getElem?_append_right (by simpa using z), List.getElem?_replicate] at q
    split at q <;> cases q

/-! ### exceptions as data -/
def XRep (K : Kf) (μ : M) (H : Hp) (d : Option Addr) (fs : List (Str × Dv)) : Prop := match d with
  | none => fs = []
  | some dd => ∃ vs, H dd = some (.xd vs) ∧ μ dd = Option.none ∧ DFlds K μ H vs fs
theorem XRep.step {d : Option Addr} {fs : List (Str × Dv)} (s : Step μ H μ' H') (h : XRep K μ H d fs) : XRep K μ' H' d fs := by
  cases d with
  | none => exact h
  | some dd => obtain ⟨vs, e, n, r⟩ := h; exact ⟨vs, (s.d _ _ e n).1, (s.d _ _ e n).2, r.step s⟩
abbrev DK := Dv → M → Prop
abbrev XD := Value → List (Str × Dv) → En → M → Prop
/-- what is wished of an exception, told by data -/
def Thr (K : Kf) (W : WX) (KE : XD) (μ : M) (H : Hp) : Prop := ∀ cls fs d σ' e' H' μ', KE cls fs e' μ' → Env K μ' H' σ' e' → Step μ H μ' H' → Rep K μ' H' → XRep K μ' H' d fs → W cls d σ' H'
theorem Thr.step {W : WX} {KE : XD} (s : Step μ H μ' H') (h : Thr K W KE μ H) : Thr K W KE μ' H' := fun cls fs d σ' e' H2 μ2 a b c => h cls fs d σ' e' H2 μ2 a b (s.trans c)
end
end DL

/-! ## Judgements over data; expressions -/
namespace DL
open PySem PySem.Spec L2
def cE (X : Cx) (e : Expr) : TE := fun σ H Q => ∀ (pins : List (Addr × Obj)) (s : Shared), Inv X pins σ H s → wpAny (model X.prog X.w) X.A (eval e X.env) (EP X pins σ Q) X.xe s
theorem peC {X : Cx} {e : Expr} : PE X e (cE X e) := ⟨fun pins s _ _ _ I h => h pins s I⟩
def cT (X : Cx) (e : Expr) : TT := fun σ H Q => ∀ (pins : List (Addr × Obj)) (s : Shared), Inv X pins σ H s → wpAny (model X.prog X.w) X.A (isTrue e X.env (eval e X.env)) (TP X pins σ Q) X.xe s
theorem ptC {X : Cx} {e : Expr} : PT X e (cT X e) := ⟨fun pins s _ _ _ I h => h pins s I⟩
def cW (X : Cx) (e : Expr) : TT := fun σ H Q => ∀ (whole : Sem Value) (pins : List (Addr × Obj)) (s : Shared), Inv X pins σ H s → wpAny (model X.prog X.w) X.A (isTrue e X.env whole) (TP X pins σ Q) X.xe s
theorem pwC {X : Cx} {e : Expr} : PW X e (cW X e) := ⟨fun w pins s _ _ _ I h => h w pins s I⟩
def cA (X : Cx) (es : List Expr) : TA := fun σ H Q => ∀ (pos : Pos) (pins : List (Addr × Obj)) (s : Shared), Inv X pins σ H s → wpAny (model X.prog X.w) X.A (spliced (backTo pos (starEach es X.env))) (AP X pins σ Q) X.xe s
theorem paC {X : Cx} {es : List Expr} : PA X es (cA X es) := ⟨fun pos pins s _ _ _ I h => h pos pins s I⟩
def cS (X : Cx) (st : Stmt) : TS := fun D σ H => ∀ (pins : List (Addr × Obj)) (s : Shared), Inv X pins σ H s → wpAny (model X.prog X.w) X.A (exec st X.env) (SP X pins D) X.xe s
theorem psC {X : Cx} {st : Stmt} : PS X st (cS X st) := ⟨fun pins s _ _ _ I h => h pins s I⟩
def cB (X : Cx) (st : List Stmt) : TS := fun D σ H => ∀ (pins : List (Addr × Obj)) (s : Shared), Inv X pins σ H s → wpAny (model X.prog X.w) X.A (execs st X.env) (SP X pins D) X.xe s
theorem pbC {X : Cx} {st : List Stmt} : PSs X st (cB X st) := ⟨fun pins s _ _ _ I h => h pins s I⟩

structure Cok (k : Nat) (X : Cx) (W : WX) : Prop where
  room : Room k X.A
  calm : X.calm = true
  tk : Takes X W
  nd : X.N.Nodup

/-- from k to Q -/
def Tl (K : Kf) (μ : M) (H : Hp) (k : DK) (Q : VK) : Prop := ∀ v d H' μ', k d μ' → Step μ H μ' H' → Rep K μ' H' → DRep K μ' H' v d → Q v H'
def TlB (K : Kf) (μ : M) (H : Hp) (k : Bool → M → Prop) (Q : Bool → Hp → Prop) : Prop := ∀ b H' μ', k b μ' → Step μ H μ' H' → Rep K μ' H' → Q b H'
def TlA (K : Kf) (μ : M) (H : Hp) (k : List Dv → M → Prop) (Q : List V → Hp → Prop) : Prop := ∀ v d H' μ', k d μ' → Step μ H μ' H' → Rep K μ' H' → DReps K μ' H' v d → Q v H'
theorem Tl.step {K : Kf} {μ μ1 : M} {H H1 : Hp} {k : DK} {Q : VK} (s : Step μ H μ1 H1) (h : Tl K μ H k Q) : Tl K μ1 H1 k Q := fun v d H' μ' a b c => h v d H' μ' a (s.trans b) c
theorem TlB.step {K : Kf} {μ μ1 : M} {H H1 : Hp} {k : Bool → M → Prop} {Q : Bool → Hp → Prop} (s : Step μ H μ1 H1) (h : TlB K μ H k Q) : TlB K μ1 H1 k Q := fun v H' μ' a b c => h v H' μ' a (s.trans b) c
theorem TlA.step {K : Kf} {μ μ1 : M} {H H1 : Hp} {k : List Dv → M → Prop} {Q : List V → Hp → Prop} (s : Step μ H μ1 H1) (h : TlA K μ H k Q) : TlA K μ1 H1 k Q := fun v d H' μ' a b c => h v d H' μ' a (s.trans b) c
section
variable (X : Cx) (W : WX) (KE : XD)
def JE (e : Expr) (n : En) (μ : M) (k : DK) : Prop := ∀ (σ : L2.St) (H : Hp) (Q : VK), Env X.K μ H σ n → Rep X.K μ H → Thr X.K W KE μ H → Tl X.K μ H k Q → cE X e σ H Q
def JT (e : Expr) (n : En) (μ : M) (k : Bool → M → Prop) : Prop := ∀ (σ : L2.St) (H : Hp) (Q : Bool → Hp → Prop), Env X.K μ H σ n → Rep X.K μ H → Thr X.K W KE μ H → TlB X.K μ H k Q → cT X e σ H Q
def JW (e : Expr) (n : En) (μ : M) (k : Bool → M → Prop) : Prop := ∀ (σ : L2.St) (H : Hp) (Q : Bool → Hp → Prop), Env X.K μ H σ n → Rep X.K μ H → Thr X.K W KE μ H → TlB X.K μ H k Q → cW X e σ H Q
def JA (es : List Expr) (n : En) (μ : M) (k : List Dv → M → Prop) : Prop := ∀ (σ : L2.St) (H : Hp) (Q : List V → Hp → Prop), Env X.K μ H σ n → Rep X.K μ H → Thr X.K W KE μ H → TlA X.K μ H k Q → cA X es σ H Q
end
/-- an operation on data -/
def DOp (K : Kf) (r : R2) (x y : Dv) (μ : M) (k : DK) : Prop := ∀ u v H Q, Rep K μ H → DRep K μ H u x → DRep K μ H v y → Tl K μ H k Q → r u v H Q
def DUn (K : Kf) (r : V → Hp → VK → Prop) (x : Dv) (μ : M) (k : DK) : Prop := ∀ u H Q, Rep K μ H → DRep K μ H u x → Tl K μ H k Q → r u H Q
def DCl (K : Kf) (r : List V → Hp → VK → Prop) (xs : List Dv) (μ : M) (k : DK) : Prop := ∀ us H Q, Rep K μ H → DReps K μ H us xs → Tl K μ H k Q → r us H Q
section
variable {X : Cx} {W : WX} {KE : XD} {e a b c : Expr} {es rest : List Expr} {n : En} {μ : M} {k : DK} {pos p : Pos} {x : Str} {K : Kf}
theorem je_of {t : TE} (h : PE X e t) (q : ∀ (σ : L2.St) (H : Hp) (Q : VK), Env X.K μ H σ n → Rep X.K μ H → Thr X.K W KE μ H → Tl X.K μ H k Q → t σ H Q) : JE X W KE e n μ k := fun σ H Q a b c d pins s I => h.run pins s σ H Q I (q σ H Q a b c d)
theorem jt_of {k : Bool → M → Prop} {t : TT} (h : PT X e t) (q : ∀ (σ : L2.St) (H : Hp) (Q : Bool → Hp → Prop), Env X.K μ H σ n → Rep X.K μ H → Thr X.K W KE μ H → TlB X.K μ H k Q → t σ H Q) : JT X W KE e n μ k := fun σ H Q a b c d pins s I => h.run pins s σ H Q I (q σ H Q a b c d)
theorem jw_of {k : Bool → M → Prop} {t : TT} (h : PW X e t) (q : ∀ (σ : L2.St) (H : Hp) (Q : Bool → Hp → Prop), Env X.K μ H σ n → Rep X.K μ H → Thr X.K W KE μ H → TlB X.K μ H k Q → t σ H Q) : JW X W KE e n μ k := fun σ H Q a b c d w pins s I => h.run w pins s σ H Q I (q σ H Q a b c d)
theorem JE.mono {k' : DK} (h : JE X W KE e n μ k) (q : ∀ d μ', k d μ' → k' d μ') : JE X W KE e n μ k' := fun σ H Q a b c d => h σ H Q a b c fun v d' H' μ' z => d v d' H' μ' (q _ _ z)
theorem JT.mono {k k' : Bool → M → Prop} (h : JT X W KE e n μ k) (q : ∀ d μ', k d μ' → k' d μ') : JT X W KE e n μ k' := fun σ H Q a b c d => h σ H Q a b c fun v H' μ' z => d v H' μ' (q _ _ z)
/-- the end of a pure thing -/
theorem tl_pure {H : Hp} {Q : VK} {u : V} {d : Dv} (t : Tl K μ H k Q) (h : k d μ) (r : Rep K μ H) (q : DRep K μ H u d) : Q u H := t u d H μ h (Step.refl μ H) r q
/-- a new object that is data -/
theorem tl_new {H : Hp} {Q : VK} {p : Addr} {o : HO} {d : Dv} (t : Tl K μ H k Q) (h : k d μ) (r : Rep K μ H) (hp : H p = none) (q : DRep K μ (upd H p o) (.ref p) d) : Q (.ref p) (upd H p o) := t _ d _ μ h (Step.new hp) (r.new hp) q

/-! ### names, constants -/
theorem je_name (i : Nat) {d : Dv} (hN : X.N[i]? = some x) (hn : n[i]? = some (some d)) (h : k d μ) (hv : Vis X.env.scope x := by first | exact Or.inl rfl | exact Or.inr (Or.inl rfl) | exact Or.inr (Or.inr rfl)) (hd : (x == ("__debug__" : Str)) = false := by decide)
    (hcd : (x == ("__classdict__" : Str)) = false := by decide) : JE X W KE (.Name x p) n μ k := je_of (pe_var hN hv hd hcd) fun σ H Q ev r t q => by
  obtain ⟨v, h1, h2⟩ := ev.2 i d hn
  exact ⟨v, h1, tl_pure q h r h2⟩
theorem je_int {i : Int} {j : Nat} (h : k (.int i) μ) : JE X W KE (.Constant (.int i) j pos) n μ k := je_of pe_int fun σ H Q ev r t q => tl_pure q h r (.int i)
theorem je_bl {i : Bool} {j : Nat} (h : k (.bl i) μ) : JE X W KE (.Constant (.bool i) j pos) n μ k := je_of pe_bl fun σ H Q ev r t q => tl_pure q h r (.bl i)
theorem je_non {j : Nat} (h : k .non μ) : JE X W KE (.Constant .none j pos) n μ k := je_of pe_non fun σ H Q ev r t q => tl_pure q h r .non
theorem je_str {z : Str} {j : Nat} (h : k (.str z) μ) : JE X W KE (.Constant (.str z) j pos) n μ k := je_of pe_str fun σ H Q ev r t q => tl_pure q h r (.str z)
/-- a module's constant that needs no heap -/
inductive CRel : Dv → V → Prop where
  | int (i : Int) : CRel (.int i) (.int i)
  | str (x : Str) : CRel (.str x) (.str x)
  | obj (a : Addr) : CRel (.obj a) (.ref a)
  | ty (n : String) : CRel (.ty n) (.ty n)
  | non : CRel .non .non
  | bl (b : Bool) : CRel (.bl b) (.bl b)
theorem CRel.rep {d : Dv} {v : V} {H : Hp} (c : CRel d v) : DRep K μ H v d := by
  cases c <;> constructor
/-- what the module's name x holds, as data -/
def Gv (mg : Str → Option Value) (x : Str) (d : Dv) : Prop := ∃ u v, mg x = some u ∧ RelV v u ∧ CRel d v
theorem je_glob {d : Dv} (g : Gv X.mg x d) (h : k d μ) (hg : Gl X x := by rfl) (hd : (x == ("__debug__" : Str)) = false := by decide) : JE X W KE (.Name x p) n μ k := by
  obtain ⟨u, v, h1, h2, h3⟩ := g
  exact je_of (pe_glob hg h1 h2 hd) fun σ H Q ev r t q => tl_pure q h r h3.rep
theorem je_bty {T : String} (hm : X.mg x = none) (hv : bootBuiltins x = some (.type T)) (h : k (.ty T) μ) (hg : Gl X x := by rfl) (hn : x ≠ "__name__" := by decide) (hd : (x == ("__debug__" : Str)) = false := by decide) : JE X W KE (.Name x p) n μ k :=
  je_of (pe_bltn hg hm hv (v := .ty T) rfl hn hd) fun σ H Q ev r t q => tl_pure q h r (.ty T)

/-! ### operators -/
theorem je_bin {op : Operator} {r : R2} (ho : OpR X (binaryOp op) r) (h : JE X W KE a n μ fun x μ1 => JE X W KE b n μ1 fun y μ2 => DOp X.K r x y μ2 k) : JE X W KE (.BinOp a op b pos) n μ k :=
  je_of (pe_op ho peC peC) fun σ H Q ev rp t q => by
    refine h σ H _ ev rp t fun u x H1 μ1 h1 s1 r1 d1 => ?_
    refine h1 σ H1 _ (ev.step s1) r1 (t.step s1) fun v y H2 μ2 h2 s2 r2 d2 => ?_
    exact h2 u v H2 Q r2 (d1.step s2) d2 (q.step (s1.trans s2))
theorem je_un {op : UnaryOp} {r : V → Hp → VK → Prop} (ho : UnR X (unaryOp op) r) (h : JE X W KE a n μ fun x μ1 => DUn X.K r x μ1 k) : JE X W KE (.UnaryOp op a pos) n μ k :=
  je_of (pe_un ho peC) fun σ H Q ev rp t q => by
    refine h σ H _ ev rp t fun u x H1 μ1 h1 s1 r1 d1 => ?_
    exact h1 u H1 Q r1 d1 (q.step s1)
theorem je_cmp {op : CmpOp} {r : R2} (ho : OpR X (compareOp op) r) (hm : behindInMarks op b = false) (h : JE X W KE a n μ fun x μ1 => JE X W KE b n μ1 fun y μ2 => DOp X.K r x y μ2 k) : JE X W KE (.Compare a [op] [b] pos) n μ k :=
  je_of (pe_cmpR ho peC peC hm) fun σ H Q ev rp t q => by
    refine h σ H _ ev rp t fun u x H1 μ1 h1 s1 r1 d1 => ?_
    refine h1 σ H1 _ (ev.step s1) r1 (t.step s1) fun v y H2 μ2 h2 s2 r2 d2 => ?_
    exact h2 u v H2 Q r2 (d1.step s2) d2 (q.step (s1.trans s2))
/-- a op b op' c -/
theorem je_chain {op op' : CmpOp} {r r' : R2} (ho : OpR X (compareOp op) r) (ho' : OpR X (compareOp op') r')
    (h : JE X W KE a n μ fun x μ1 => JE X W KE b n μ1 fun y μ2 => DOp X.K r x y μ2 fun z μ3 => ∃ b, z = .bl b ∧ (b = true → JE X W KE c n μ3 fun w μ4 => DOp X.K r' y w μ4 k) ∧ (b = false → k (.bl false) μ3))
    (hm : lastMarks [op, op'] [b, c] = false := by with_unfolding_all rfl) : JE X W KE (.Compare a [op, op'] [b, c] pos) n μ k :=
  je_of (pe_chain ho ho' peC peC peC hm) fun σ H Q ev rp t q => by
    refine h σ H _ ev rp t fun u x H1 μ1 h1 s1 r1 d1 => ?_
    refine h1 σ H1 _ (ev.step s1) r1 (t.step s1) fun v y H2 μ2 h2 s2 r2 d2 => ?_
    refine h2 u v H2 _ r2 (d1.step s2) d2 fun z d3 H3 μ3 h3 s3 r3 d3' => ?_
    obtain ⟨b, rfl, ht, hf⟩ := h3
    cases d3'
    refine ⟨b, rfl, ?_⟩
    have s13 := (s1.trans s2).trans s3
    cases b with
    | true =>
      rw [if_pos rfl]
      refine ht rfl σ H3 _ (ev.step s13) r3 (t.step s13) fun w y4 H4 μ4 h4 s4 r4 d4 => ?_
      exact h4 v w H4 Q r4 (d2.step (s3.trans s4)) d4 (q.step (s13.trans s4))
    | false =>
      rw [if_neg Bool.false_ne_true]
      exact tl_pure (q.step s13) (hf rfl) r3 (.bl false)
/-- a and b, a or b, not a, a if t else b, as values -/
theorem je_one {op : BoolOp} (h : JE X W KE a n μ k) : JE X W KE (.BoolOp op [a] pos) n μ k := je_of (pe_one peC) fun σ H Q ev rp t q => h σ H Q ev rp t q
theorem je_and (h : JE X W KE a n μ fun x μ1 => ∃ c, x = .bl c ∧ (c = true → JE X W KE (.BoolOp .And (b :: rest) pos) n μ1 k) ∧ (c = false → k (.bl false) μ1)) : JE X W KE (.BoolOp .And (a :: b :: rest) pos) n μ k :=
  je_of (pe_and peC peC) fun σ H Q ev rp t q => by
    refine h σ H _ ev rp t fun u x H1 μ1 h1 s1 r1 d1 => ?_
    obtain ⟨c, rfl, ht, hf⟩ := h1
    cases d1
    refine ⟨c, rfl, ?_⟩
    cases c with
    | true => rw [if_pos rfl]; exact ht rfl σ H1 Q (ev.step s1) r1 (t.step s1) (q.step s1)
    | false => rw [if_neg Bool.false_ne_true]; exact tl_pure (q.step s1) (hf rfl) r1 (.bl false)
theorem je_or (h : JE X W KE a n μ fun x μ1 => ∃ c, x = .bl c ∧ (c = true → k (.bl true) μ1) ∧ (c = false → JE X W KE (.BoolOp .Or (b :: rest) pos) n μ1 k)) : JE X W KE (.BoolOp .Or (a :: b :: rest) pos) n μ k :=
  je_of (pe_or peC peC) fun σ H Q ev rp t q => by
    refine h σ H _ ev rp t fun u x H1 μ1 h1 s1 r1 d1 => ?_
    obtain ⟨c, rfl, ht, hf⟩ := h1
    cases d1
    refine ⟨c, rfl, ?_⟩
    cases c with
    | true => rw [if_pos rfl]; exact tl_pure (q.step s1) (ht rfl) r1 (.bl true)
    | false => rw [if_neg Bool.false_ne_true]; exact hf rfl σ H1 Q (ev.step s1) r1 (t.step s1) (q.step s1)
theorem je_not (h : JE X W KE a n μ fun x μ1 => ∃ c, x = .bl c ∧ k (.bl (!c)) μ1) : JE X W KE (.UnaryOp .Not a pos) n μ k :=
  je_of (pe_not peC) fun σ H Q ev rp t q => by
    refine h σ H _ ev rp t fun u x H1 μ1 h1 s1 r1 d1 => ?_
    obtain ⟨c, rfl, h2⟩ := h1
    cases d1
    exact ⟨c, rfl, tl_pure (q.step s1) h2 r1 (.bl _)⟩
theorem je_ite (h : JT X W KE c n μ fun t μ1 => (t = true → JE X W KE a n μ1 k) ∧ (t = false → JE X W KE b n μ1 k)) : JE X W KE (.IfExp c a b pos) n μ k :=
  je_of (pe_ifExp ptC peC peC) fun σ H Q ev rp t q => by
    refine h σ H _ ev rp t fun u H1 μ1 h1 s1 r1 => ?_
    cases u with
    | true => rw [if_pos rfl]; exact h1.1 rfl σ H1 Q (ev.step s1) r1 (t.step s1) (q.step s1)
    | false => rw [if_neg Bool.false_ne_true]; exact h1.2 rfl σ H1 Q (ev.step s1) r1 (t.step s1) (q.step s1)

/-! ### tests -/
section
variable {kb : Bool → M → Prop}
theorem jt_val (h : JE X W KE e n μ fun x μ1 => ∃ c, x = .bl c ∧ kb c μ1) (he : ∀ whole, isTrue e X.env whole = (do let v ← whole; standAt e.pos; holding [v] (truthy v)) := by intro _; rfl) : JT X W KE e n μ kb :=
  jt_of (pt_val peC he) fun σ H Q ev rp t q => by
    refine h σ H _ ev rp t fun u x H1 μ1 h1 s1 r1 d1 => ?_
    obtain ⟨c, rfl, h2⟩ := h1
    cases d1
    exact ⟨c, rfl, q _ _ μ1 h2 s1 r1⟩
theorem jt_not (h : JT X W KE a n μ fun c μ1 => kb (!c) μ1) : JT X W KE (.UnaryOp .Not a pos) n μ kb :=
  jt_of (pt_not ptC) fun σ H Q ev rp t q => h σ H _ ev rp t fun u H1 μ1 h1 s1 r1 => q _ _ μ1 h1 s1 r1
theorem jt_w (h : JW X W KE e n μ kb) : JT X W KE e n μ kb := jt_of pwC.pt fun σ H Q ev rp t q => h σ H Q ev rp t q
theorem jw_and1 (h : JT X W KE a n μ kb) : JW X W KE (.BoolOp .And [a] pos) n μ kb := jw_of (pw_and1 ptC) fun σ H Q ev rp t q => h σ H Q ev rp t q
theorem jw_or1 (h : JT X W KE a n μ kb) : JW X W KE (.BoolOp .Or [a] pos) n μ kb := jw_of (pw_or1 ptC) fun σ H Q ev rp t q => h σ H Q ev rp t q
theorem jw_and (h : JT X W KE a n μ fun c μ1 => (c = true → JW X W KE (.BoolOp .And (b :: rest) pos) n μ1 kb) ∧ (c = false → kb false μ1)) : JW X W KE (.BoolOp .And (a :: b :: rest) pos) n μ kb :=
  jw_of (pw_and ptC pwC) fun σ H Q ev rp t q => by
    refine h σ H _ ev rp t fun u H1 μ1 h1 s1 r1 => ?_
    cases u with
    | true => rw [if_pos rfl]; exact h1.1 rfl σ H1 Q (ev.step s1) r1 (t.step s1) (q.step s1)
    | false => rw [if_neg Bool.false_ne_true]; exact q _ _ μ1 (h1.2 rfl) s1 r1
theorem jw_or (h : JT X W KE a n μ fun c μ1 => (c = true → kb true μ1) ∧ (c = false → JW X W KE (.BoolOp .Or (b :: rest) pos) n μ1 kb)) : JW X W KE (.BoolOp .Or (a :: b :: rest) pos) n μ kb :=
  jw_of (pw_or ptC pwC) fun σ H Q ev rp t q => by
    refine h σ H _ ev rp t fun u H1 μ1 h1 s1 r1 => ?_
    cases u with
    | true => rw [if_pos rfl]; exact q _ _ μ1 (h1.1 rfl) s1 r1
    | false => rw [if_neg Bool.false_ne_true]; exact h1.2 rfl σ H1 Q (ev.step s1) r1 (t.step s1) (q.step s1)
end

/-! ### arguments, displays -/
section
variable {ka : List Dv → M → Prop}
theorem ja_nil (h : ka [] μ) : JA X W KE [] n μ ka := fun σ H Q ev rp t q pos pins s I => pa_nil.run pos pins s σ H Q I (q _ _ _ μ h (Step.refl _ _) rp .nil)
theorem ja_cons (h : JE X W KE a n μ fun x μ1 => JA X W KE rest n μ1 fun xs μ2 => ka (x :: xs) μ2) (hs : starEach (a :: rest) X.env = (false, eval a X.env) :: starEach rest X.env := by rfl) : JA X W KE (a :: rest) n μ ka := fun σ H Q ev rp t q pos pins s I => by
  refine (pa_cons peC paC hs).run pos pins s σ H Q I ?_
  refine h σ H _ ev rp t fun u x H1 μ1 h1 s1 r1 d1 => ?_
  refine h1 σ H1 _ (ev.step s1) r1 (t.step s1) fun us xs H2 μ2 h2 s2 r2 d2 => ?_
  exact q _ _ H2 μ2 h2 (s1.trans s2) r2 (.cons (d1.step s2) d2)
theorem ja_one (h : JE X W KE a n μ fun x μ1 => ka [x] μ1) (hs : starEach [a] X.env = (false, eval a X.env) :: starEach [] X.env := by rfl) : JA X W KE [a] n μ ka := ja_cons (h.mono fun _ _ z => ja_nil z) hs
end
theorem je_tup {kk} (h : JA X W KE es n μ fun xs μ1 => xs.length ≤ sizeLine ∧ k (.tup xs) μ1) : JE X W KE (.Tuple es kk pos) n μ k :=
  je_of (pe_tup paC) fun σ H Q ev rp t q => by
    refine h σ H _ ev rp t fun us xs H1 μ1 h1 s1 r1 d1 => ⟨by rw [d1.length]; exact h1.1, fun p hp => ?_⟩
    exact tl_new (q.step s1) h1.2 r1 hp (.tup upd_same (r1.free hp) (d1.step (Step.new hp)))
theorem je_lst (h : JA X W KE es n μ fun xs μ1 => xs.length ≤ sizeLine ∧ k (.lst xs) μ1) : JE X W KE (.List es pos) n μ k :=
  je_of (pe_lst paC) fun σ H Q ev rp t q => by
    refine h σ H _ ev rp t fun us xs H1 μ1 h1 s1 r1 d1 => ⟨by rw [d1.length]; exact h1.1, fun p hp => ?_⟩
    exact tl_new (q.step s1) h1.2 r1 hp (.lst upd_same (r1.free hp) (d1.step (Step.new hp)))
/-- a display that stays mutable -/
theorem je_lstM (h : JA X W KE es n μ fun xs μ1 => xs.length ≤ sizeLine ∧ ∀ a, μ1 a = none → k (.obj a) (updM μ1 a (.lst xs))) : JE X W KE (.List es pos) n μ k :=
  je_of (pe_lst paC) fun σ H Q ev rp t q => by
    refine h σ H _ ev rp t fun us xs H1 μ1 h1 s1 r1 d1 => ⟨by rw [d1.length]; exact h1.1, fun p hp => ?_⟩
    have s2 : Step μ1 H1 (updM μ1 p (.lst xs)) (upd H1 p (.lst us)) := Step.newM hp
    exact q _ _ _ _ (h1.2 p (r1.free hp)) (s1.trans s2) (r1.put s2 ⟨us, upd_same, d1.step s2⟩) (.obj p)
/-- {} -/
theorem je_dnew (h : ∀ a, μ a = none → k (.obj a) (updM μ a (.dic []))) : JE X W KE (.Dict [] [] pos) n μ k :=
  je_of pe_dnewK fun σ H Q ev rp t q => fun p hp => by
    have s2 : Step μ H (updM μ p (.dic [])) (upd H p (.dK [])) := Step.newM hp
    exact q _ _ _ _ (h p (rp.free hp)) s2 (rp.put s2 ⟨[], upd_same, .nil⟩) (.obj p)

/-! ### what may be read as a list, a tuple, an instance -/
inductive LsE (μ : M) : Dv → List Dv → Prop where
  | lst (xs : List Dv) : LsE μ (.lst xs) xs
  | obj {a : Addr} {xs : List Dv} (h : μ a = some (.lst xs)) : LsE μ (.obj a) xs
theorem LsE.rep {d : Dv} {xs : List Dv} {H : Hp} {u : V} (l : LsE μ d xs) (r : Rep K μ H) (q : DRep K μ H u d) : ∃ a vs, u = .ref a ∧ H a = some (.lst vs) ∧ DReps K μ H vs xs := by
  cases l with
  | lst xs => cases q with | lst h n r => exact ⟨_, _, rfl, h, r⟩
  | obj h => cases q with | obj a => obtain ⟨vs, e, rr⟩ := r _ _ h; exact ⟨_, _, rfl, e, rr⟩
inductive SqD (μ : M) : Dv → List Dv → Prop where
  | lst (xs : List Dv) : SqD μ (.lst xs) xs
  | fro (xs : List Dv) : SqD μ (.fro xs) xs
  | obj {a : Addr} {xs : List Dv} (h : μ a = some (.lst xs)) : SqD μ (.obj a) xs
theorem SqD.rep {d : Dv} {xs : List Dv} {H : Hp} {u : V} (l : SqD μ d xs) (r : Rep K μ H) (q : DRep K μ H u d) : ∃ a vs, u = .ref a ∧ SqL K H a vs ∧ DReps K μ H vs xs := by
  cases l with
  | lst xs => cases q with | lst h n r => exact ⟨_, _, rfl, SqL.of h, r⟩
  | fro xs =>
    cases q with
    | fro h n r => exact ⟨_, _, rfl, .inl h, r⟩
    | frk h r => exact ⟨_, _, rfl, .inr h, r⟩
  | obj h => cases q with | obj a => obtain ⟨vs, e, rr⟩ := r _ _ h; exact ⟨_, _, rfl, SqL.of e, rr⟩
theorem tup_rep {xs : List Dv} {H : Hp} {u : V} (q : DRep K μ H u (.tup xs)) : ∃ a vs, u = .ref a ∧ H a = some (.tup vs) ∧ DReps K μ H vs xs := by
  cases q with | tup h n r => exact ⟨_, _, rfl, h, r⟩
/-- an instance, mutable or data -/
inductive InsD (μ : M) : Dv → Addr → List (Str × Dv) → Prop where
  | ins (C : Addr) (fs : List (Str × Dv)) : InsD μ (.ins C fs) C fs
  | obj {a C : Addr} {fs : List (Str × Dv)} (h : μ a = some (.ins C fs)) : InsD μ (.obj a) C fs
theorem InsD.rep {d : Dv} {C : Addr} {fs : List (Str × Dv)} {H : Hp} {u : V} (l : InsD μ d C fs) (r : Rep K μ H) (q : DRep K μ H u d) : ∃ a dx vs, u = .ref a ∧ H a = some (.ins C dx vs) ∧ DFlds K μ H vs fs := by
  cases l with
  | ins C fs => cases q with | ins h n r => exact ⟨_, _, _, rfl, h, r⟩
  | obj h => cases q with | obj a => obtain ⟨dx, vs, e, rr⟩ := r _ _ h; exact ⟨_, _, _, rfl, e, rr⟩
theorem je_fld {f : Str} (h : JE X W KE e n μ fun d μ1 => ∃ C fs v, InsD μ1 d C fs ∧ Cls X.K C ∧ NoAttr X.K C f ∧ fs.lookup f = some v ∧ k v μ1)
    (hb : attributeBase e f X.env (eval e X.env) = eval e X.env := by rfl) : JE X W KE (.Attribute e f pos) n μ k :=
  je_of (pe_fld peC hb) fun σ H Q ev rp t q => by
    refine h σ H _ ev rp t fun u x H1 μ1 h1 s1 r1 d1 => ?_
    obtain ⟨C, fs, v, i, c, na, l, h2⟩ := h1
    obtain ⟨a, dx, vs, rfl, ha, fr⟩ := i.rep r1 d1
    obtain ⟨w, l1, l2⟩ := fr.get l
    exact ⟨a, C, dx, vs, w, rfl, ha, c, na, l1, tl_pure (q.step s1) h2 r1 l2⟩
end
end DL

/-! ## Operators, subscripts, calls -/
namespace DL
open PySem PySem.Spec L2
section
variable {X : Cx} {W : WX} {KE : XD} {e a b c : Expr} {es rest : List Expr} {n : En} {μ : M} {k : DK} {pos p : Pos} {x : Str} {K : Kf} {kl : Nat}

/-! ### operators on data -/
def rAddA (K : Kf) : R2 := fun x y H Q => rI0 (fun i j => V.int (i + j)) x y H Q ∨ (∃ i j, x = V.str i ∧ y = V.str j ∧ i.length + j.length ≤ sizeLine ∧ Q (.str (i ++ j)) H) ∨ rCat x y H Q ∨ rCatA K x y H Q
theorem op_addA : OpR X (binaryOp .Add) (rAddA X.K) := OpR.or op_add (OpR.or op_add_str (OpR.or op_cat op_catA))
theorem je_add (h : JE X W KE a n μ fun x μ1 => JE X W KE b n μ1 fun y μ2 => DOp X.K (rAddA X.K) x y μ2 k) : JE X W KE (.BinOp a .Add b pos) n μ k := je_bin op_addA h
theorem d_addI {i j : Int} (h : k (.int (i + j)) μ) : DOp K (rAddA K) (.int i) (.int j) μ k := fun u v H Q r du dv t => by
  cases du; cases dv
  exact .inl ⟨i, j, rfl, rfl, tl_pure t h r (.int _)⟩
theorem d_addS {i j : Str} (hz : i.length + j.length ≤ sizeLine) (h : k (.str (i ++ j)) μ) : DOp K (rAddA K) (.str i) (.str j) μ k := fun u v H Q r du dv t => by
  cases du; cases dv
  exact .inr (.inl ⟨i, j, rfl, rfl, hz, tl_pure t h r (.str _)⟩)
theorem d_addL {x y : Dv} {xs ys : List Dv} (l1 : LsE μ x xs) (l2 : LsE μ y ys) (hz : xs.length + ys.length ≤ sizeLine) (h : k (.lst (xs ++ ys)) μ) : DOp K (rAddA K) x y μ k := fun u v H Q r du dv t => by
  obtain ⟨a, vs, rfl, ha, ra⟩ := l1.rep r du
  obtain ⟨b, ws, rfl, hb, rb⟩ := l2.rep r dv
  exact .inr (.inr (.inl ⟨a, b, vs, ws, rfl, rfl, ha, hb, by rw [ra.length, rb.length]; exact hz, fun p hp => tl_new t h r hp (.lst upd_same (r.free hp) ((ra.append rb).step (Step.new hp)))⟩))
theorem d_addT {xs ys : List Dv} (hz : xs.length + ys.length ≤ sizeLine) (h : k (.tup (xs ++ ys)) μ) : DOp K (rAddA K) (.tup xs) (.tup ys) μ k := fun u v H Q r du dv t => by
  have du' := du
  have dv' := dv
  obtain ⟨a, vs, rfl, ha, ra⟩ := tup_rep du
  obtain ⟨b, ws, rfl, hb, rb⟩ := tup_rep dv
  refine .inr (.inr (.inr ⟨a, b, vs, ws, rfl, rfl, SqT.of ha, SqT.of hb, by rw [ra.length, rb.length]; exact hz, fun e => ?_, fun _ e => ?_, fun _ _ p hp => ?_⟩))
  · subst e
    cases ra
    exact tl_pure t h r dv'
  · subst e
    cases rb
    rw [List.append_nil] at h
    exact tl_pure t h r du'
  · exact tl_new t h r hp (.tup upd_same (r.free hp) ((ra.append rb).step (Step.new hp)))
theorem je_sub (h : JE X W KE a n μ fun x μ1 => JE X W KE b n μ1 fun y μ2 => DOp X.K (rI0 fun i j => V.int (i - j)) x y μ2 k) : JE X W KE (.BinOp a .Sub b pos) n μ k := je_bin op_sub h
theorem d_I0 {g : Int → Int → V} {z : Dv} {i j : Int} (hz : ∀ H, DRep K μ H (g i j) z) (h : k z μ) : DOp K (rI0 g) (.int i) (.int j) μ k := fun u v H Q r du dv t => by
  cases du; cases dv
  exact ⟨i, j, rfl, rfl, tl_pure t h r (hz H)⟩
theorem d_I {g : Int → Int → V} {C : Int → Int → Prop} {z : Dv} {i j : Int} (hc : C i j) (hz : ∀ H, DRep K μ H (g i j) z) (h : k z μ) : DOp K (rI C g) (.int i) (.int j) μ k := fun u v H Q r du dv t => by
  cases du; cases dv
  exact ⟨i, j, rfl, rfl, hc, tl_pure t h r (hz H)⟩
theorem d_subI {i j : Int} (h : k (.int (i - j)) μ) : DOp K (rI0 fun i j => V.int (i - j)) (.int i) (.int j) μ k := d_I0 (fun _ => .int _) h
def rMulA : R2 := fun x y H Q => rI CMul (fun i j => V.int (i * j)) x y H Q ∨ rRep x y H Q
theorem op_mulA : OpR X (binaryOp .Mult) rMulA := OpR.or op_mul op_rep
theorem je_mul (h : JE X W KE a n μ fun x μ1 => JE X W KE b n μ1 fun y μ2 => DOp X.K rMulA x y μ2 k) : JE X W KE (.BinOp a .Mult b pos) n μ k := je_bin op_mulA h
theorem d_mulI {i j : Int} (hc : CMul i j) (h : k (.int (i * j)) μ) : DOp K rMulA (.int i) (.int j) μ k := fun u v H Q r du dv t => .inl (d_I hc (fun _ => .int _) h u v H Q r du dv t)
theorem replicate_flatten_one {α : Type} (v : α) (j : Nat) : (List.replicate j [v]).flatten = List.replicate j v := by
  induction j with
  | zero => rfl
  | succ j ih => rw [List.replicate_succ, List.replicate_succ, List.flatten_cons, ih]; rfl
/-- [d] * j -/
theorem d_mulL1 {x d : Dv} {j : Int} (l1 : LsE μ x [d]) (hj : -(2 ^ 63) ≤ j ∧ j ≤ 16777216) (h : k (.lst (List.replicate j.toNat d)) μ) : DOp K rMulA x (.int j) μ k := fun u v H Q r du dv t => by
  obtain ⟨a, vs, rfl, ha, ra⟩ := l1.rep r du
  cases dv
  cases ra with
  | cons h1 t1 =>
    cases t1
    refine .inr ⟨a, j, _, rfl, rfl, ha, hj.1, by omega, by show 1 * j.toNat ≤ sizeLine; rw [sizeLine_eq]; omega, fun p hp => tl_new t h r hp (.lst upd_same (r.free hp) ?_)⟩
    rw [replicate_flatten_one]
    exact (DReps.replicate h1 _).step (Step.new hp)
theorem je_fdiv (h : JE X W KE a n μ fun x μ1 => JE X W KE b n μ1 fun y μ2 => DOp X.K (rI CDiv fun i j => V.int (i / j)) x y μ2 k) : JE X W KE (.BinOp a .FloorDiv b pos) n μ k := je_bin op_fdiv h
theorem d_fdivI {i j : Int} (hc : CDiv i j) (h : k (.int (i / j)) μ) : DOp K (rI CDiv fun i j => V.int (i / j)) (.int i) (.int j) μ k := d_I hc (fun _ => .int _) h
theorem je_mod (h : JE X W KE a n μ fun x μ1 => JE X W KE b n μ1 fun y μ2 => DOp X.K (rI (fun _ j => 0 < j) fun i j => V.int (i % j)) x y μ2 k) : JE X W KE (.BinOp a .Mod b pos) n μ k := je_bin op_mod h
theorem d_modI {i j : Int} (hc : 0 < j) (h : k (.int (i % j)) μ) : DOp K (rI (fun _ j => 0 < j) fun i j => V.int (i % j)) (.int i) (.int j) μ k := d_I (C := fun _ j => 0 < j) hc (fun _ => .int _) h
theorem je_pow (h : JE X W KE a n μ fun x μ1 => JE X W KE b n μ1 fun y μ2 => DOp X.K (rI CPow fun i j => V.int (i ^ j.toNat)) x y μ2 k) : JE X W KE (.BinOp a .Pow b pos) n μ k := je_bin op_pow h
theorem d_powI {i j : Int} (hc : CPow i j) (h : k (.int (i ^ j.toNat)) μ) : DOp K (rI CPow fun i j => V.int (i ^ j.toNat)) (.int i) (.int j) μ k := d_I hc (fun _ => .int _) h
theorem je_neg (h : JE X W KE a n μ fun x μ1 => DUn X.K (rU fun i => V.int (-i)) x μ1 k) : JE X W KE (.UnaryOp .USub a pos) n μ k := je_un un_neg h
theorem d_negI {i : Int} (h : k (.int (-i)) μ) : DUn K (rU fun i => V.int (-i)) (.int i) μ k := fun u H Q r du t => by
  cases du
  exact ⟨i, rfl, tl_pure t h r (.int _)⟩

/-! ### comparisons -/
theorem je_lt (h : JE X W KE a n μ fun x μ1 => JE X W KE b n μ1 fun y μ2 => DOp X.K (rI0 fun i j => V.bl (decide (i < j))) x y μ2 k) : JE X W KE (.Compare a [.Lt] [b] pos) n μ k := je_cmp op_lt (nomark _) h
theorem je_le (h : JE X W KE a n μ fun x μ1 => JE X W KE b n μ1 fun y μ2 => DOp X.K (rI0 fun i j => V.bl (decide (i ≤ j))) x y μ2 k) : JE X W KE (.Compare a [.LtE] [b] pos) n μ k := je_cmp op_le (nomark _) h
theorem je_gt (h : JE X W KE a n μ fun x μ1 => JE X W KE b n μ1 fun y μ2 => DOp X.K (rI0 fun i j => V.bl (decide (j < i))) x y μ2 k) : JE X W KE (.Compare a [.Gt] [b] pos) n μ k := je_cmp op_gt (nomark _) h
theorem je_ge (h : JE X W KE a n μ fun x μ1 => JE X W KE b n μ1 fun y μ2 => DOp X.K (rI0 fun i j => V.bl (decide (j ≤ i))) x y μ2 k) : JE X W KE (.Compare a [.GtE] [b] pos) n μ k := je_cmp op_ge (nomark _) h
theorem d_cmpI {g : Int → Int → Bool} {i j : Int} (h : k (.bl (g i j)) μ) : DOp K (rI0 fun i j => V.bl (g i j)) (.int i) (.int j) μ k := d_I0 (fun _ => .bl _) h
/-- flat things that == compares at once -/
inductive ScD : Dv → V → Prop where
  | non : ScD .non .non
  | bl (b : Bool) : ScD (.bl b) (.bl b)
  | int (i : Int) : ScD (.int i) (.int i)
  | str (x : Str) : ScD (.str x) (.str x)
theorem ScD.eq {d : Dv} {u v : V} {H : Hp} (s : ScD d v) (r : DRep K μ H u d) : u = v := by cases s <;> cases r <;> rfl
mutual
def toPy : Dv → Option PyData
  | .non => some .none
  | .bl b => some (.bool b)
  | .int i => some (.int i)
  | .str x => some (.str x)
  | .tup xs => (toPys xs).map .tuple
  | .lst xs => (toPys xs).map .list
  | .fro xs => (toPys xs).map .list
  | _ => none
def toPys : List Dv → Option (List PyData)
  | [] => some []
  | x :: r => match toPy x, toPys r with
    | some y, some ys => some (y :: ys)
    | _, _ => none
end
mutual
theorem DRep.dp {H : Hp} : ∀ {v : V} {d : Dv} {q : PyData}, DRep K μ H v d → toPy d = some q → Dp K H v q
  | _, _, q, .non, e => by unfold toPy at e; cases e; exact .non
  | _, _, q, .bl b, e => by unfold toPy at e; cases e; exact .bl b
  | _, _, q, .int b, e => by unfold toPy at e; cases e; exact .int b
  | _, _, q, .str b, e => by unfold toPy at e; cases e; exact .str b
  | _, _, q, .ty b, e => by unfold toPy at e; cases e
  | _, _, q, .obj b, e => by unfold toPy at e; cases e
  | _, _, q, .tup (ds := ds) h n r, e => by
    unfold toPy at e
    cases z : toPys ds with
    | none => rw [z] at e; cases e
    | some qs => rw [z] at e; cases e; exact .tup (SqT.of h) (r.dps z)
  | _, _, q, .lst (ds := ds) h n r, e => by
    unfold toPy at e
    cases z : toPys ds with
    | none => rw [z] at e; cases e
    | some qs => rw [z] at e; cases e; exact .lst (SqL.of h) (r.dps z)
  | _, _, q, .fro (ds := ds) h n r, e => by
    unfold toPy at e
    cases z : toPys ds with
    | none => rw [z] at e; cases e
    | some qs => rw [z] at e; cases e; exact .lst (.inl h) (r.dps z)
  | _, _, q, .frk (ds := ds) h r, e => by
    unfold toPy at e
    cases z : toPys ds with
    | none => rw [z] at e; cases e
    | some qs => rw [z] at e; cases e; exact .lst (.inr h) (r.dps z)
  | _, _, q, .ins h n r, e => by unfold toPy at e; cases e
  | _, _, q, .exc0 h n, e => by unfold toPy at e; cases e
  | _, _, q, .exc1 h n h2 n2 r, e => by unfold toPy at e; cases e
theorem DReps.dps {H : Hp} : ∀ {v : List V} {d : List Dv} {q : List PyData}, DReps K μ H v d → toPys d = some q → DpAll K H v q
  | _, _, q, .nil, e => by unfold toPys at e; cases e; exact .nil
  | _, _, q, .cons (d := d) (ds := ds) h t, e => by
    unfold toPys at e
    cases z1 : toPy d with
    | none => rw [z1] at e; cases e
    | some y =>
      cases z2 : toPys ds with
      | none => rw [z1, z2] at e; cases e
      | some ys =>
        rw [z1, z2] at e
        cases e
        exact .cons (h.dp z1) (t.dps z2)
end
def rEqA (K : Kf) : R2 := fun x y H Q => rEq x y H Q ∨ rEqD K x y H Q
def rNeA (K : Kf) : R2 := fun x y H Q => rNe x y H Q ∨ rNeD K x y H Q
theorem je_eq (c : Cok kl X W) (h : JE X W KE a n μ fun x μ1 => JE X W KE b n μ1 fun y μ2 => DOp X.K (rEqA X.K) x y μ2 k) : JE X W KE (.Compare a [.Eq] [b] pos) n μ k := je_cmp (OpR.or op_eq (op_eqD c.room.units)) (nomark _) h
theorem je_ne (c : Cok kl X W) (h : JE X W KE a n μ fun x μ1 => JE X W KE b n μ1 fun y μ2 => DOp X.K (rNeA X.K) x y μ2 k) : JE X W KE (.Compare a [.NotEq] [b] pos) n μ k := je_cmp (OpR.or op_ne (op_neD c.room.units)) (nomark _) h
theorem d_eqSc {x y : Dv} {u v : V} (hx : ScD x u) (hy : ScD y v) (hs : scal u v = true) (h : k (.bl (decide (u = v))) μ) : DOp K (rEqA K) x y μ k := fun u' v' H Q r du dv t => by
  rw [hx.eq du, hy.eq dv]
  exact .inl ⟨hs, tl_pure t h r (.bl _)⟩
theorem d_neSc {x y : Dv} {u v : V} (hx : ScD x u) (hy : ScD y v) (hs : scal u v = true) (h : k (.bl (!decide (u = v))) μ) : DOp K (rNeA K) x y μ k := fun u' v' H Q r du dv t => by
  rw [hx.eq du, hy.eq dv]
  exact .inl ⟨hs, tl_pure t h r (.bl _)⟩
theorem decI {i j : Int} : decide (V.int i = V.int j) = decide (i = j) := decide_eq_decide.mpr ⟨V.int.inj, congrArg _⟩
theorem decS {i j : Str} : decide (V.str i = V.str j) = decide (i = j) := decide_eq_decide.mpr ⟨V.str.inj, congrArg _⟩
theorem decB {i j : Bool} : decide (V.bl i = V.bl j) = decide (i = j) := decide_eq_decide.mpr ⟨V.bl.inj, congrArg _⟩
theorem d_eqI {i j : Int} (h : k (.bl (decide (i = j))) μ) : DOp K (rEqA K) (.int i) (.int j) μ k := d_eqSc (.int i) (.int j) rfl (by rw [decI]; exact h)
theorem d_neI {i j : Int} (h : k (.bl (!decide (i = j))) μ) : DOp K (rNeA K) (.int i) (.int j) μ k := d_neSc (.int i) (.int j) rfl (by rw [decI]; exact h)
theorem d_eqS {i j : Str} (h : k (.bl (decide (i = j))) μ) : DOp K (rEqA K) (.str i) (.str j) μ k := d_eqSc (.str i) (.str j) rfl (by rw [decS]; exact h)
theorem d_neS {i j : Str} (h : k (.bl (!decide (i = j))) μ) : DOp K (rNeA K) (.str i) (.str j) μ k := d_neSc (.str i) (.str j) rfl (by rw [decS]; exact h)
theorem d_eqB {i j : Bool} (h : k (.bl (decide (i = j))) μ) : DOp K (rEqA K) (.bl i) (.bl j) μ k := d_eqSc (.bl i) (.bl j) rfl (by rw [decB]; exact h)
theorem d_neB {i j : Bool} (h : k (.bl (!decide (i = j))) μ) : DOp K (rNeA K) (.bl i) (.bl j) μ k := d_neSc (.bl i) (.bl j) rfl (by rw [decB]; exact h)
theorem d_eqNI {j : Int} (h : k (.bl false) μ) : DOp K (rEqA K) .non (.int j) μ k := d_eqSc .non (.int j) rfl h
theorem d_neNI {j : Int} (h : k (.bl true) μ) : DOp K (rNeA K) .non (.int j) μ k := d_neSc .non (.int j) rfl h
theorem d_eqD {x y : Dv} {p q : PyData} (hx : toPy x = some p) (hy : toPy y = some q) (sp : SeqAt.shaped p = true) (sq : SeqAt.shaped q = true) (h : k (.bl (PyData.eqv p q)) μ) : DOp K (rEqA K) x y μ k := fun u v H Q r du dv t =>
  .inr ⟨p, q, du.dp hx, dv.dp hy, sp, sq, tl_pure t h r (.bl _)⟩
theorem d_neD {x y : Dv} {p q : PyData} (hx : toPy x = some p) (hy : toPy y = some q) (sp : SeqAt.shaped p = true) (sq : SeqAt.shaped q = true) (h : k (.bl (!PyData.eqv p q)) μ) : DOp K (rNeA K) x y μ k := fun u v H Q r du dv t =>
  .inr ⟨p, q, du.dp hx, dv.dp hy, sp, sq, tl_pure t h r (.bl _)⟩
/-- a mutable list read as data, for == -/
theorem DRep.thaw {H : Hp} {v : V} {a : Addr} {xs : List Dv} {qs : List PyData} (r : Rep K μ H) (d : DRep K μ H v (.obj a)) (h : μ a = some (.lst xs)) (e : toPys xs = some qs) : Dp K H v (.list qs) := by
  cases d
  obtain ⟨vs, e1, r1⟩ := r _ _ h
  exact .lst (SqL.of e1) (r1.dps e)
theorem d_eqDO {x : Dv} {a : Addr} {xs : List Dv} {p : PyData} {qs : List PyData} (hx : toPy x = some p) (ha : μ a = some (.lst xs)) (hy : toPys xs = some qs) (sp : SeqAt.shaped p = true) (sq : SeqAt.shaped (.list qs) = true) (h : k (.bl (PyData.eqv p (.list qs))) μ) : DOp K (rEqA K) x (.obj a) μ k := fun u v H Q r du dv t =>
  .inr ⟨p, _, du.dp hx, dv.thaw r ha hy, sp, sq, tl_pure t h r (.bl _)⟩
theorem d_neDO {x : Dv} {a : Addr} {xs : List Dv} {p : PyData} {qs : List PyData} (hx : toPy x = some p) (ha : μ a = some (.lst xs)) (hy : toPys xs = some qs) (sp : SeqAt.shaped p = true) (sq : SeqAt.shaped (.list qs) = true) (h : k (.bl (!PyData.eqv p (.list qs))) μ) : DOp K (rNeA K) x (.obj a) μ k := fun u v H Q r du dv t =>
  .inr ⟨p, _, du.dp hx, dv.thaw r ha hy, sp, sq, tl_pure t h r (.bl _)⟩
def isNonD : Dv → Bool
  | .non => true
  | _ => false
theorem isNonD_dec {d : Dv} {u : V} {H : Hp} (r : DRep K μ H u d) : decide (u = V.non) = isNonD d := by cases r <;> rfl
theorem je_is (h : JE X W KE a n μ fun x μ1 => JE X W KE b n μ1 fun y μ2 => DOp X.K (fun x y H Q => y = .non ∧ Q (.bl (decide (x = .non))) H) x y μ2 k) (hm : behindInMarks .Is b = false := by exact nomark _) : JE X W KE (.Compare a [.Is] [b] pos) n μ k := je_cmp op_isN hm h
theorem je_isnot (h : JE X W KE a n μ fun x μ1 => JE X W KE b n μ1 fun y μ2 => DOp X.K (fun x y H Q => y = .non ∧ Q (.bl (!decide (x = .non))) H) x y μ2 k) (hm : behindInMarks .IsNot b = false := by exact nomark _) : JE X W KE (.Compare a [.IsNot] [b] pos) n μ k := je_cmp op_notN hm h
theorem d_isN {x : Dv} (h : k (.bl (isNonD x)) μ) : DOp K (fun x y H Q => y = .non ∧ Q (.bl (decide (x = .non))) H) x .non μ k := fun u v H Q r du dv t => by
  cases dv
  exact ⟨rfl, by rw [isNonD_dec du]; exact tl_pure t h r (.bl _)⟩
theorem d_isnotN {x : Dv} (h : k (.bl (!isNonD x)) μ) : DOp K (fun x y H Q => y = .non ∧ Q (.bl (!decide (x = .non))) H) x .non μ k := fun u v H Q r du dv t => by
  cases dv
  exact ⟨rfl, by rw [isNonD_dec du]; exact tl_pure t h r (.bl _)⟩

/-! ### subscripts -/
theorem DReps.atI {H : Hp} {vs : List V} {ds : List Dv} {i : Int} {d : Dv} (r : DReps K μ H vs ds) (h : L2.atI ds i = some d) : ∃ v, L2.atI vs i = some v ∧ DRep K μ H v d := by
  unfold L2.atI at h ⊢
  rw [r.length]
  cases e : ixN ds.length i with
  | none => rw [e] at h; cases h
  | some j =>
    rw [e] at h
    exact r.get h
theorem je_ix (h : JE X W KE a n μ fun x μ1 => JE X W KE b n μ1 fun y μ2 => DOp X.K (rIx X.K) x y μ2 k) (hs : PlainIx b := by exact fun _ _ => rfl) : JE X W KE (.Subscript a b pos) n μ k :=
  je_of (pe_ix ix_seq peC peC hs) fun σ H Q ev rp t q => by
    refine h σ H _ ev rp t fun u x H1 μ1 h1 s1 r1 d1 => ?_
    refine h1 σ H1 _ (ev.step s1) r1 (t.step s1) fun v y H2 μ2 h2 s2 r2 d2 => ?_
    exact h2 u v H2 Q r2 (d1.step s2) d2 (q.step (s1.trans s2))
theorem d_ixL {x : Dv} {xs : List Dv} {i : Int} {d : Dv} (l : SqD μ x xs) (hi : L2.atI xs i = some d) (h : k d μ) : DOp K (rIx K) x (.int i) μ k := fun u v H Q r du dv t => by
  obtain ⟨a, vs, rfl, ha, ra⟩ := l.rep r du
  cases dv
  obtain ⟨w, e, rw⟩ := ra.atI hi
  exact .inl ⟨a, vs, i, w, rfl, rfl, ha, e, tl_pure t h r rw⟩
theorem d_ixT {xs : List Dv} {i : Int} {d : Dv} (hi : L2.atI xs i = some d) (h : k d μ) : DOp K (rIx K) (.tup xs) (.int i) μ k := fun u v H Q r du dv t => by
  obtain ⟨a, vs, rfl, ha, ra⟩ := tup_rep du
  cases dv
  obtain ⟨w, e, rw⟩ := ra.atI hi
  exact .inr (.inl ⟨a, vs, i, w, rfl, rfl, SqT.of ha, e, tl_pure t h r rw⟩)
/-- a[lo:hi] of a list -/
def JO (X : Cx) (W : WX) (KE : XD) (o : Option Expr) (n : En) (μ : M) (k : Option Int → M → Prop) : Prop := match o with
  | none => k none μ
  | some e => JE X W KE e n μ fun d μ1 => ∃ i, d = .int i ∧ k (some i) μ1
def cO (X : Cx) : Option Expr → TO
  | none => tNoPart
  | some e => tPart (cE X e)
theorem poC {o : Option Expr} : PO X o (cO X o) := by
  cases o with
  | none => exact po_none
  | some e => exact po_some peC
theorem JO.run {o : Option Expr} {ko : Option Int → M → Prop} (h : JO X W KE o n μ ko) {σ : L2.St} {H : Hp} {Q : Option Int → Hp → Prop} (ev : Env X.K μ H σ n) (rp : Rep X.K μ H) (t : Thr X.K W KE μ H)
    (q : ∀ i H' μ', ko i μ' → Step μ H μ' H' → Rep X.K μ' H' → Q i H') : cO X o σ H Q := by
  cases o with
  | none => exact q _ _ μ h (Step.refl _ _) rp
  | some e =>
    refine h σ H _ ev rp t fun u x H1 μ1 h1 s1 r1 d1 => ?_
    obtain ⟨i, rfl, h2⟩ := h1
    cases d1
    exact ⟨i, rfl, q _ _ μ1 h2 s1 r1⟩
def cutD (xs : List Dv) (lo hi : Option Int) : List Dv := (xs.drop (HT.sIx xs.length 0 lo)).take (HT.sIx xs.length xs.length hi - HT.sIx xs.length 0 lo)
theorem DReps.cut {H : Hp} {vs : List V} {ds : List Dv} (r : DReps K μ H vs ds) (lo hi : Option Int) : DReps K μ H (cutV vs lo hi) (cutD ds lo hi) := by
  unfold cutV cutD
  rw [r.length]
  exact (r.drop _).take _
theorem je_slice {lo hi : Option Expr} {p2 : Pos} (h : JE X W KE a n μ fun x μ1 => JO X W KE lo n μ1 fun i μ2 => JO X W KE hi n μ2 fun j μ3 => ∃ xs, SqD μ3 x xs ∧ k (.lst (cutD xs i j)) μ3) : JE X W KE (.Subscript a (.Slice lo hi none p2) pos) n μ k :=
  je_of (pe_slice sl_list peC poC poC) fun σ H Q ev rp t q => by
    refine h σ H _ ev rp t fun u x H1 μ1 h1 s1 r1 d1 => ?_
    refine h1.run (ev.step s1) r1 (t.step s1) fun i H2 μ2 h2 s2 r2 => ?_
    have s12 := s1.trans s2
    refine h2.run (ev.step s12) r2 (t.step s12) fun j H3 μ3 h3 s3 r3 => ?_
    obtain ⟨xs, l, hk⟩ := h3
    obtain ⟨a, vs, rfl, ha, ra⟩ := l.rep r3 (d1.step (s2.trans s3))
    refine ⟨a, vs, rfl, ha, fun p hp => ?_⟩
    exact tl_new (q.step (s12.trans s3)) hk r3 hp (.lst upd_same (r3.free hp) ((ra.cut i j).step (Step.new hp)))
end
end DL

/-! ## Calls, statements, loops, comprehensions, defs -/
namespace DL
open PySem PySem.Spec L2

/-- a def's promise over data: the arguments, the store, what is wanted of the answer, of an exception -/
abbrev XF := Value → List (Str × Dv) → M → Prop
abbrev DSp := List Dv → M → DK → XF → Prop
def toSp (K : Kf) (S : DSp) : Sp := fun vs H Q E => ∃ ds μ kd ke, DReps K μ H vs ds ∧ Rep K μ H ∧ S ds μ kd ke ∧ Tl K μ H kd Q ∧ ∀ cls fs d H' μ', ke cls fs μ' → Step μ H μ' H' → Rep K μ' H' → XRep K μ' H' d fs → E cls d H'
inductive CRels : List Dv → List V → Prop where
  | nil : CRels [] []
  | cons {d : Dv} {v : V} {ds : List Dv} {vs : List V} (h : CRel d v) (t : CRels ds vs) : CRels (d :: ds) (v :: vs)
theorem CRels.rep {K : Kf} {μ : M} {H : Hp} : ∀ {ds : List Dv} {vs : List V}, CRels ds vs → DReps K μ H vs ds
  | _, _, .nil => .nil
  | _, _, .cons h t => .cons h.rep t.rep
/-- what stands at f keeps the promise S (dvs: the defaults that fill up) -/
structure DFn (P : Program) (w : World) (K : Kf) (mg : Str → Option Value) (base : Heap) (k : Nat) (f : Addr) (S : DSp) (dvs : List Dv) : Prop where
  ex : ∃ (fd : FuncData) (ps : List Str) (ds : List Value) (vs : List V), FnOk P w K mg base (L2.CX P w) k f fd ps (toSp K S) ∧ Binds K fd ps ds ∧ Vals vs ds ∧ CRels dvs vs
structure DCal (P : Program) (w : World) (K : Kf) (mg : Str → Option Value) (base : Heap) (k : Nat) (x : Str) (S : DSp) (dvs : List Dv) : Prop where
  ex : ∃ f : Addr, DFn P w K mg base k f S dvs ∧ mg x = some (.ref f) ∧ PySem.W.keepIn K (.ref f) = true
structure DMet (P : Program) (w : World) (K : Kf) (mg : Str → Option Value) (base : Heap) (k : Nat) (C : Addr) (m : Str) (S : DSp) (dvs : List Dv) : Prop where
  ex : ∃ f : Addr, DFn P w K mg base k f S dvs ∧ Cls K C ∧ Meth K C m f
structure DMak (P : Program) (w : World) (K : Kf) (mg : Str → Option Value) (base : Heap) (k : Nat) (x : Str) (C : Addr) (S : DSp) (dvs : List Dv) : Prop where
  ex : ∃ f : Addr, DFn P w K mg base k f S dvs ∧ Mk K C f ∧ mg x = some (.ref C)
section
variable {X : Cx} {W : WX} {KE : XD} {e a b c o : Expr} {es rest : List Expr} {n : En} {μ : M} {k : DK} {pos p apos : Pos} {x m : Str} {K : Kf} {kl j : Nat} {S : DSp} {dvs : List Dv}
theorem DFn.mono {P : Program} {w : World} {mg : Str → Option Value} {base : Heap} {f : Addr} (h : DFn P w K mg base j f S dvs) (l : j ≤ kl) : DFn P w K mg base kl f S dvs := by
  obtain ⟨fd, ps, ds, vs, F, r⟩ := h.ex
  exact ⟨fd, ps, ds, vs, F.mono l, r⟩
/-- the callee runs, data in, data out -/
theorem run_data {f : Addr} {args : List Dv} {σ : L2.St} {H : Hp} {Q : VK} {vs : List V} {us : List Value} {pins : List (Addr × Obj)} {s : Shared} (c : Cok kl X W) (F : DFn X.prog X.w X.K X.mg X.base j f S dvs) (hj : j ≤ kl) (ev : Env X.K μ H σ n) (rp : Rep X.K μ H) (t : Thr X.K W KE μ H) (q : Tl X.K μ H k Q)
    (d : DReps X.K μ H vs args) (I : Inv X pins σ H s) (r : Vals vs us) (h : S (args ++ dvs) μ k (fun cls fs μ' => KE cls fs n μ')) : wpAny (model X.prog X.w) X.A (call (.ref f) us) (EP X pins σ Q) X.xe s := by
  obtain ⟨fd, ps, ds, dv, F, hb, hd, hc⟩ := F.ex
  refine run_fnSD (F.mono hj) c.room hb hd (passAt c.tk σ) I r ⟨args ++ dvs, μ, k, _, d.append hc.rep, rp, h, q, fun cls fs d' H' μ' h1 s1 r1 x1 => ?_⟩
  exact t cls fs d' σ n H' μ' h1 (ev.step s1) s1 r1 x1
theorem je_call (c : Cok kl X W) (F : DCal X.prog X.w X.K X.mg X.base j x S dvs) (hj : j ≤ kl) (h : JA X W KE (e :: es) n μ fun args μ1 => S (args ++ dvs) μ1 k (fun cls fs μ' => KE cls fs n μ')) (hg : Gl X x := by rfl)
    (hdb : (x == ("__debug__" : Str)) = false := by decide) (he : starEach (e :: es) X.env = (false, eval e X.env) :: starEach es X.env := by rfl) (hpl : (backTo pos (starEach es X.env)).any (·.1) = false := by rfl) :
    JE X W KE (.Call (.Name x p) (e :: es) [] pos) n μ k := fun σ H Q ev rp t q pins s I => by
  obtain ⟨f, F, hm, hk⟩ := F.ex
  refine wpAny_Call_Name_kw (ld_glob I hg hm ?_ hdb)
  refine PySem.W.callWith_K (h₀ := X.base) I.ok.mod.kin hk (thn (h σ H _ ev rp t (fun us xs H1 μ1 h1 s1 r1 d1 => show (fun vs H1 => ∃ args μ1, S (args ++ dvs) μ1 k (fun cls fs μ' => KE cls fs n μ') ∧ Step μ H μ1 H1 ∧ Rep X.K μ1 H1 ∧ DReps X.K μ1 H1 vs args) us H1 from ⟨xs, μ1, h1, s1, r1, d1⟩) pos pins s I) fun us s1 ⟨vs, H1, I1, r, args, μ1, h1, s1, r1, d1⟩ => ⟨I1.kIn, ?_⟩) he hpl
  exact run_data c F hj (ev.step s1) r1 (t.step s1) (q.step s1) d1 I1 r h1
theorem je_call0 (c : Cok kl X W) (F : DCal X.prog X.w X.K X.mg X.base j x S dvs) (hj : j ≤ kl) (h : S dvs μ k (fun cls fs μ' => KE cls fs n μ')) (hg : Gl X x := by rfl) (hdb : (x == ("__debug__" : Str)) = false := by decide) :
    JE X W KE (.Call (.Name x p) [] [] pos) n μ k := fun σ H Q ev rp t q pins s I => by
  obtain ⟨f, F, hm, hk⟩ := F.ex
  refine wpAny_Call_Name_kw (ld_glob I hg hm ?_ hdb)
  exact PySem.W.callWith_K0 I.kIn hk (run_data (us := []) (args := []) c F hj ev rp t q .nil I .nil h)
theorem je_meth {pl : Sem Bool} (c : Cok kl X W) (h : JE X W KE o n μ fun d μ1 => ∃ C fs S dvs j, InsD μ1 d C fs ∧ fs.lookup m = none ∧ DMet X.prog X.w X.K X.mg X.base j C m S dvs ∧ j ≤ kl ∧ JA X W KE (e :: es) n μ1 fun args μ2 => S (d :: (args ++ dvs)) μ2 k (fun cls fs μ' => KE cls fs n μ'))
    (hst : starEach (e :: es) X.env = (false, eval e X.env) :: starEach es X.env := by rfl) (hpl : (backTo pos (starEach es X.env)).any (·.1) = false := by rfl)
    (ht : eval (.Call (.Attribute o m apos) (e :: es) [] pos) X.env = (do
      let ov ← eval o X.env
      standAt apos.atName
      let (f, first) ← holding [ov] (getMethod ov m pl)
      callWith pos f first (backTo pos (starEach (e :: es) X.env)) (backToKw pos (keywordEach [] X.env))) := by rfl) :
    JE X W KE (.Call (.Attribute o m apos) (e :: es) [] pos) n μ k := fun σ H Q ev rp t q pins s I => by
  refine PySem.W.methodCall_KW (pl := pl) (thn (h σ H (fun v H1 => ∃ d μ1, (∃ C fs S dvs j, InsD μ1 d C fs ∧ fs.lookup m = none ∧ DMet X.prog X.w X.K X.mg X.base j C m S dvs ∧ j ≤ kl ∧ JA X W KE (e :: es) n μ1 fun args μ2 => S (d :: (args ++ dvs)) μ2 k (fun cls fs μ' => KE cls fs n μ')) ∧ Step μ H μ1 H1 ∧ Rep X.K μ1 H1 ∧ DRep X.K μ1 H1 v d) ev rp t (fun v d H1 μ1 h1 s1 r1 d1 => ⟨d, μ1, h1, s1, r1, d1⟩) pins s I) fun u s1 ⟨v, H1, I1, rx, d, μ1, ⟨C, fs, S, dvs, j, i1, l1, F, hj, h1⟩, st1, r1, d1⟩ => ?_) ht
  obtain ⟨a, dx, vf, rfl, ea, fr⟩ := i1.rep r1 d1
  obtain rfl : u = Value.ref a := rx
  obtain ⟨f, F, cl, hm⟩ := F.ex
  refine getmeth_ok I1 ea cl hm (fr.none l1) ?_
  refine PySem.W.callWith_K (first := [.ref a]) (h₀ := X.base) I.ok.mod.kin hm.kp (thn (h1 σ H1 (fun vs H2 => ∃ args μ2, S (d :: (args ++ dvs)) μ2 k (fun cls fs μ' => KE cls fs n μ') ∧ Step μ1 H1 μ2 H2 ∧ Rep X.K μ2 H2 ∧ DReps X.K μ2 H2 vs args) (ev.step st1) r1 (t.step st1) (fun us xs H2 μ2 h2 s2 r2 d2 => ⟨xs, μ2, h2, s2, r2, d2⟩) pos pins s1 I1) fun us s2 ⟨vs, H2, I2, r, args, μ2, h2, st2, r2, d2⟩ => ⟨I2.kIn, ?_⟩) hst hpl
  have s12 := st1.trans st2
  exact run_data (us := .ref a :: us) (vs := .ref a :: vs) (args := d :: args) c F hj (ev.step s12) r2 (t.step s12) (q.step s12) (.cons (d1.step st2) d2) I2 (.cons rfl r) h2
theorem je_meth0 {pl : Sem Bool} (c : Cok kl X W) (h : JE X W KE o n μ fun d μ1 => ∃ C fs S dvs j, InsD μ1 d C fs ∧ fs.lookup m = none ∧ DMet X.prog X.w X.K X.mg X.base j C m S dvs ∧ j ≤ kl ∧ S (d :: dvs) μ1 k (fun cls fs μ' => KE cls fs n μ'))
    (ht : eval (.Call (.Attribute o m apos) [] [] pos) X.env = (do
      let ov ← eval o X.env
      standAt apos.atName
      let (f, first) ← holding [ov] (getMethod ov m pl)
      callWith pos f first (backTo pos (starEach [] X.env)) (backToKw pos (keywordEach [] X.env))) := by rfl) :
    JE X W KE (.Call (.Attribute o m apos) [] [] pos) n μ k := fun σ H Q ev rp t q pins s I => by
  refine PySem.W.methodCall_KW (pl := pl) (thn (h σ H (fun v H1 => ∃ d μ1, (∃ C fs S dvs j, InsD μ1 d C fs ∧ fs.lookup m = none ∧ DMet X.prog X.w X.K X.mg X.base j C m S dvs ∧ j ≤ kl ∧ S (d :: dvs) μ1 k (fun cls fs μ' => KE cls fs n μ')) ∧ Step μ H μ1 H1 ∧ Rep X.K μ1 H1 ∧ DRep X.K μ1 H1 v d) ev rp t (fun v d H1 μ1 h1 s1 r1 d1 => ⟨d, μ1, h1, s1, r1, d1⟩) pins s I) fun u s1 ⟨v, H1, I1, rx, d, μ1, ⟨C, fs, S, dvs, j, i1, l1, F, hj, h1⟩, st1, r1, d1⟩ => ?_) ht
  obtain ⟨a, dx, vf, rfl, ea, fr⟩ := i1.rep r1 d1
  obtain rfl : u = Value.ref a := rx
  obtain ⟨f, F, cl, hm⟩ := F.ex
  refine getmeth_ok I1 ea cl hm (fr.none l1) ?_
  exact PySem.W.callWith_K0 (first := [.ref a]) I1.kIn hm.kp (run_data (us := [.ref a]) (vs := [.ref a]) (args := [d]) c F hj (ev.step st1) r1 (t.step st1) (q.step st1) (.one d1) I1 (.cons rfl .nil) h1)
/-- the new object as it is from now on: mutable, or data -/
def MkEnd (μ : M) (a : Addr) (k : DK) : Prop := k (.obj a) μ ∨ ∃ C fs, μ a = some (.ins C fs) ∧ k (.ins C fs) (delM μ a)
theorem run_makeSD {CX : CXT} {k : Nat} {f C : Addr} {fd : FuncData} {ps : List Str} {sp : Sp} {dv : List V} {ds : List Value} {E : XK} {pins : List (Addr × Obj)} {σ : L2.St} {H : Hp} {s : Shared} {Q : VK} {us : List Value} {vs : List V} (M : Mk X.K C f) (F : FnOk X.prog X.w X.K X.mg X.base CX k f fd ps sp) (hr : Room (k + 1) X.A) (hb : Binds X.K fd ps ds) (hd : Vals dv ds)
    (hx : PassesAt CX X σ E) (I : Inv X pins σ H s) (r : Vals vs us)
    (h : ∀ x dx, H x = none → H dx = none → dx ≠ x → sp (.ref x :: (vs ++ dv)) (upd (upd H dx (.own x)) x (.ins C dx [])) (fun v H2 => v = .non ∧ Q (.ref x) H2) E) :
    wpAny (model X.prog X.w) X.A (call (.ref C) us) (EP X pins σ Q) X.xe s := by
  have hq := h (s.heap.objs.size + 1) s.heap.objs.size (I.hok.fresh (Nat.le_succ _)) (I.hok.fresh (Nat.le_refl _)) (Nat.ne_of_lt (Nat.lt_succ_self _))
  have I2 := Inv.made (C := C) I
  have r2 : Vals (V.ref (s.heap.objs.size + 1) :: (vs ++ dv)) (Value.ref (s.heap.objs.size + 1) :: (us ++ ds)) := .cons rfl (r.append hd)
  have hl : (Value.ref (s.heap.objs.size + 1) :: us ++ ds).length = ps.length := by
    have e := r2.length
    rw [F.len _ _ _ _ hq] at e
    exact e.symm
  refine wpAny_call (make_map (f := f) I.kIn M.makes M.init (beq_iff_eq.mp M.fn) (codeAny_mono (F.run _ X.stack _ _ ⟨Value.ref (s.heap.objs.size + 1) :: us, []⟩ (Value.ref (s.heap.objs.size + 1) :: (us ++ ds)) _ _ E (hr.make C us [])
    (I2.env0.make C us []) (hb _ (Value.ref (s.heap.objs.size + 1) :: us) I2.kIn hl) r2 hq) fun r s' hq' => ?_))
  cases r with
  | error e => exact hx pins _ _ e s' I2 hq'
  | ok fl =>
    cases fl with
    | ret u =>
      obtain ⟨v, H', I3, rv, ev, q3⟩ := I2.after hq'
      subst ev
      exact ⟨rv, ⟨V.ref (s.heap.objs.size + 1), H', I3, rfl, q3⟩⟩
    | next => exact False.elim hq'
    | brk => exact False.elim hq'
    | cont => exact False.elim hq'
theorem run_make_data {C : Addr} {args : List Dv} {σ : L2.St} {H : Hp} {Q : VK} {vs : List V} {us : List Value} {pins : List (Addr × Obj)} {s : Shared} {f : Addr} (c : Cok kl X W) (M : Mk X.K C f) (F : DFn X.prog X.w X.K X.mg X.base j f S dvs) (hj : j + 1 ≤ kl) (ev : Env X.K μ H σ n) (rp : Rep X.K μ H) (t : Thr X.K W KE μ H) (q : Tl X.K μ H k Q)
    (d : DReps X.K μ H vs args) (I : Inv X pins σ H s) (r : Vals vs us) (h : ∀ a, μ a = none → S (.obj a :: (args ++ dvs)) (updM μ a (.ins C [])) (fun r μ2 => r = .non ∧ MkEnd μ2 a k) (fun cls fs μ' => KE cls fs n μ')) :
    wpAny (model X.prog X.w) X.A (call (.ref C) us) (EP X pins σ Q) X.xe s := by
  obtain ⟨fd, ps, ds, dv, F, hb, hd, hc⟩ := F.ex
  refine run_makeSD M F (c.room.mono hj) hb hd (passAt c.tk σ) I r fun x dx nx nd ne => ?_
  have sA : Step μ H μ (upd H dx (.own x)) := Step.new nd
  have nx1 : upd H dx (.own x) x = none := by rw [upd_ne ne.symm]; exact nx
  have sB : Step μ (upd H dx (.own x)) (updM μ x (.ins C [])) (upd (upd H dx (.own x)) x (.ins C dx [])) := Step.newM nx1
  have sAB := sA.trans sB
  have r2 : Rep X.K (updM μ x (.ins C [])) (upd (upd H dx (.own x)) x (.ins C dx [])) := (rp.new nd).put sB ⟨dx, [], upd_same, .nil⟩
  refine ⟨.obj x :: (args ++ dvs), _, _, _, .cons (.obj x) ((d.step sAB).append hc.rep), r2, h x (rp.free nx), fun v d' H' μ' hk s1 r1 d1 => ?_, fun cls fs d' H' μ' h1 s1 r1 x1 => ?_⟩
  · obtain ⟨rfl, hk⟩ := hk
    cases d1
    refine ⟨rfl, ?_⟩
    rcases hk with hk | ⟨C', fs, ha, hk⟩
    · exact q _ _ _ _ hk (sAB.trans s1) r1 (.obj x)
    · obtain ⟨dx', vf, e, fr⟩ := r1 _ _ ha
      exact q _ _ _ _ hk ((sAB.trans s1).trans (Step.freeze ha)) (r1.freeze ha) (.ins e delM_same (fr.step (Step.freeze ha)))
  · exact t cls fs d' σ n H' μ' h1 (ev.step (sAB.trans s1)) (sAB.trans s1) r1 x1
theorem je_make {C : Addr} (c : Cok kl X W) (F : DMak X.prog X.w X.K X.mg X.base j x C S dvs) (hj : j + 1 ≤ kl) (h : JA X W KE (e :: es) n μ fun args μ1 => ∀ a, μ1 a = none → S (.obj a :: (args ++ dvs)) (updM μ1 a (.ins C [])) (fun r μ2 => r = .non ∧ MkEnd μ2 a k) (fun cls fs μ' => KE cls fs n μ')) (hg : Gl X x := by rfl)
    (hdb : (x == ("__debug__" : Str)) = false := by decide) (he : starEach (e :: es) X.env = (false, eval e X.env) :: starEach es X.env := by rfl) (hpl : (backTo pos (starEach es X.env)).any (·.1) = false := by rfl) :
    JE X W KE (.Call (.Name x p) (e :: es) [] pos) n μ k := fun σ H Q ev rp t q pins s I => by
  obtain ⟨f, F, M, hm⟩ := F.ex
  refine wpAny_Call_Name_kw (ld_glob I hg hm ?_ hdb)
  refine PySem.W.callWith_K (h₀ := X.base) I.ok.mod.kin M.kp (thn (h σ H (fun vs H1 => ∃ args μ1, (∀ a, μ1 a = none → S (.obj a :: (args ++ dvs)) (updM μ1 a (.ins C [])) (fun r μ2 => r = .non ∧ MkEnd μ2 a k) (fun cls fs μ' => KE cls fs n μ')) ∧ Step μ H μ1 H1 ∧ Rep X.K μ1 H1 ∧ DReps X.K μ1 H1 vs args) ev rp t (fun us xs H1 μ1 h1 s1 r1 d1 => ⟨xs, μ1, h1, s1, r1, d1⟩) pos pins s I) fun us s1 ⟨vs, H1, I1, r, args, μ1, h1, s1, r1, d1⟩ => ⟨I1.kIn, ?_⟩) he hpl
  exact run_make_data c M F hj (ev.step s1) r1 (t.step s1) (q.step s1) d1 I1 r h1
theorem je_make0 {C : Addr} (c : Cok kl X W) (F : DMak X.prog X.w X.K X.mg X.base j x C S dvs) (hj : j + 1 ≤ kl) (h : ∀ a, μ a = none → S (.obj a :: dvs) (updM μ a (.ins C [])) (fun r μ2 => r = .non ∧ MkEnd μ2 a k) (fun cls fs μ' => KE cls fs n μ')) (hg : Gl X x := by rfl) (hdb : (x == ("__debug__" : Str)) = false := by decide) :
    JE X W KE (.Call (.Name x p) [] [] pos) n μ k := fun σ H Q ev rp t q pins s I => by
  obtain ⟨f, F, M, hm⟩ := F.ex
  refine wpAny_Call_Name_kw (ld_glob I hg hm ?_ hdb)
  exact PySem.W.callWith_K0 I.kIn M.kp (run_make_data (us := []) (args := []) c M F hj ev rp t q .nil I .nil h)

/-! ### built-in functions -/
theorem je_cB {id : String} {r : List V → Hp → VK → Prop} (hc : CallR X (.builtin id) r) (hm : X.mg x = none) (hv : bootBuiltins x = some (.builtin id)) (h : JA X W KE (e :: es) n μ fun xs μ1 => DCl X.K r xs μ1 k) (hg : Gl X x := by rfl) (hn : x ≠ "__name__" := by decide)
    (hdb : (x == ("__debug__" : Str)) = false := by decide) (he : starEach (e :: es) X.env = (false, eval e X.env) :: starEach es X.env := by rfl) (hpl : (backTo pos (starEach es X.env)).any (·.1) = false := by rfl) : JE X W KE (.Call (.Name x p) (e :: es) [] pos) n μ k :=
  je_of (pe_callB hc hg hm hv paC hn hdb he hpl) fun σ H Q ev rp t q => by
    refine h σ H _ ev rp t fun us xs H1 μ1 h1 s1 r1 d1 => ?_
    exact h1 us H1 Q r1 d1 (q.step s1)
theorem je_cT {T : String} {r : List V → Hp → VK → Prop} (hc : CallR X (.type T) r) (hm : X.mg x = none) (hv : bootBuiltins x = some (.type T)) (h : JA X W KE (e :: es) n μ fun xs μ1 => DCl X.K r xs μ1 k) (hg : Gl X x := by rfl) (hn : x ≠ "__name__" := by decide)
    (hdb : (x == ("__debug__" : Str)) = false := by decide) (he : starEach (e :: es) X.env = (false, eval e X.env) :: starEach es X.env := by rfl) (hpl : (backTo pos (starEach es X.env)).any (·.1) = false := by rfl) : JE X W KE (.Call (.Name x p) (e :: es) [] pos) n μ k :=
  je_of (pe_callTy hc hg hm hv paC hn hdb he hpl) fun σ H Q ev rp t q => by
    refine h σ H _ ev rp t fun us xs H1 μ1 h1 s1 r1 d1 => ?_
    exact h1 us H1 Q r1 d1 (q.step s1)
def rLenA (K : Kf) : List V → Hp → VK → Prop := fun xs H Q => (∃ p ys, xs = [.ref p] ∧ (SqL K H p ys ∨ SqT K H p ys) ∧ Q (.int ys.length) H) ∨ ∃ z, xs = [.str z] ∧ z.length ≤ sizeLine ∧ Q (.int z.length) H
theorem call_lenA : CallR X (.builtin "len") (rLenA X.K) := CallR.or call_len_seq call_len_str
theorem d_lenL {x : Dv} {xs : List Dv} (l : SqD μ x xs) (h : k (.int xs.length) μ) : DCl K (rLenA K) [x] μ k := fun us H Q r d t => by
  cases d with
  | cons d0 d1 =>
    cases d1
    obtain ⟨a, vs, rfl, ha, ra⟩ := l.rep r d0
    exact .inl ⟨a, vs, rfl, .inl ha, tl_pure t h r (by rw [ra.length]; exact .int _)⟩
theorem d_lenT {xs : List Dv} (h : k (.int xs.length) μ) : DCl K (rLenA K) [.tup xs] μ k := fun us H Q r d t => by
  cases d with
  | cons d0 d1 =>
    cases d1
    obtain ⟨a, vs, rfl, ha, ra⟩ := tup_rep d0
    exact .inl ⟨a, vs, rfl, .inr (SqT.of ha), tl_pure t h r (by rw [ra.length]; exact .int _)⟩
theorem d_lenS {z : Str} (hz : z.length ≤ sizeLine) (h : k (.int z.length) μ) : DCl K (rLenA K) [.str z] μ k := fun us H Q r d t => by
  cases d with
  | cons d0 d1 =>
    cases d1; cases d0
    exact .inr ⟨z, rfl, hz, tl_pure t h r (.int _)⟩
theorem d_max2 {i j : Int} (h : k (.int (max i j)) μ) : DCl K (fun xs H Q => ∃ i j, xs = [V.int i, .int j] ∧ Q (.int (if j > i then j else i)) H) [.int i, .int j] μ k := fun us H Q r d t => by
  cases d with
  | cons d0 d1 =>
    cases d1 with
    | cons d1 d2 =>
      cases d2; cases d0; cases d1
      have e : (if j > i then j else i) = max i j := by omega
      exact ⟨i, j, rfl, by rw [e]; exact tl_pure t h r (.int _)⟩
theorem d_min2 {i j : Int} (h : k (.int (min i j)) μ) : DCl K (fun xs H Q => ∃ i j, xs = [V.int i, .int j] ∧ Q (.int (if j < i then j else i)) H) [.int i, .int j] μ k := fun us H Q r d t => by
  cases d with
  | cons d0 d1 =>
    cases d1 with
    | cons d1 d2 =>
      cases d2; cases d0; cases d1
      have e : (if j < i then j else i) = min i j := by omega
      exact ⟨i, j, rfl, by rw [e]; exact tl_pure t h r (.int _)⟩
theorem d_sum {x : Dv} {ns : List Int} (l : SqD μ x (ns.map Dv.int)) (h : k (.int ns.sum) μ) : DCl K (rSum K) [x] μ k := fun us H Q r d t => by
  cases d with
  | cons d0 d1 =>
    cases d1
    obtain ⟨a, vs, rfl, ha, ra⟩ := l.rep r d0
    have e := ra.ints
    subst e
    exact ⟨a, ns, rfl, ha, tl_pure t h r (.int _)⟩
theorem d_maxL {x : Dv} {ns : List Int} (l : SqD μ x (ns.map Dv.int)) (hn : 0 < ns.length) (h : ∀ m, m ∈ ns → (∀ y ∈ ns, y ≤ m) → k (.int m) μ) : DCl K (rMax K) [x] μ k := fun us H Q r d t => by
  cases d with
  | cons d0 d1 =>
    cases d1
    obtain ⟨a, vs, rfl, ha, ra⟩ := l.rep r d0
    have e := ra.ints
    subst e
    exact ⟨a, ns, rfl, ha, hn, fun m h1 h2 => tl_pure t (h m h1 h2) r (.int _)⟩
theorem d_minL {x : Dv} {ns : List Int} (l : SqD μ x (ns.map Dv.int)) (hn : 0 < ns.length) (h : ∀ m, m ∈ ns → (∀ y ∈ ns, m ≤ y) → k (.int m) μ) : DCl K (rMin K) [x] μ k := fun us H Q r d t => by
  cases d with
  | cons d0 d1 =>
    cases d1
    obtain ⟨a, vs, rfl, ha, ra⟩ := l.rep r d0
    have e := ra.ints
    subst e
    exact ⟨a, ns, rfl, ha, hn, fun m h1 h2 => tl_pure t (h m h1 h2) r (.int _)⟩
theorem d_all {x : Dv} {bs : List Bool} (l : SqD μ x (bs.map Dv.bl)) (h : k (.bl (bs.all id)) μ) : DCl K (rAll K) [x] μ k := fun us H Q r d t => by
  cases d with
  | cons d0 d1 =>
    cases d1
    obtain ⟨a, vs, rfl, ha, ra⟩ := l.rep r d0
    have e := ra.bls
    subst e
    exact ⟨a, bs, rfl, ha, tl_pure t h r (.bl _)⟩
theorem d_listOf {x : Dv} {xs : List Dv} (l : SqD μ x xs) (h : k (.lst xs) μ) : DCl K (fun ys H Q => ∃ p zs, ys = [V.ref p] ∧ (SqL K H p zs ∨ SqT K H p zs) ∧ ∀ l, H l = none → Q (.ref l) (upd H l (.lst zs))) [x] μ k := fun us H Q r d t => by
  cases d with
  | cons d0 d1 =>
    cases d1
    obtain ⟨a, vs, rfl, ha, ra⟩ := l.rep r d0
    exact ⟨a, vs, rfl, .inl ha, fun p hp => tl_new t h r hp (.lst upd_same (r.free hp) (ra.step (Step.new hp)))⟩
theorem d_listOfT {xs : List Dv} (h : k (.lst xs) μ) : DCl K (fun ys H Q => ∃ p zs, ys = [V.ref p] ∧ (SqL K H p zs ∨ SqT K H p zs) ∧ ∀ l, H l = none → Q (.ref l) (upd H l (.lst zs))) [.tup xs] μ k := fun us H Q r d t => by
  cases d with
  | cons d0 d1 =>
    cases d1
    obtain ⟨a, vs, rfl, ha, ra⟩ := tup_rep d0
    exact ⟨a, vs, rfl, .inr (SqT.of ha), fun p hp => tl_new t h r hp (.lst upd_same (r.free hp) (ra.step (Step.new hp)))⟩
/-- int(..) of an int, a bool -/
theorem d_intI {i : Int} (h : k (.int i) μ) : DCl K (fun xs H Q => (∃ i, xs = [V.int i] ∧ Q (.int i) H) ∨ ∃ k, xs = [.bl k] ∧ Q (.int (if k then 1 else 0)) H) [.int i] μ k := fun us H Q r d t => by
  cases d with
  | cons d0 d1 =>
    cases d1; cases d0
    exact .inl ⟨i, rfl, tl_pure t h r (.int _)⟩
theorem d_intB {i : Bool} (h : k (.int (if i then 1 else 0)) μ) : DCl K (fun xs H Q => (∃ i, xs = [V.int i] ∧ Q (.int i) H) ∨ ∃ k, xs = [.bl k] ∧ Q (.int (if k then 1 else 0)) H) [.bl i] μ k := fun us H Q r d t => by
  cases d with
  | cons d0 d1 =>
    cases d1; cases d0
    exact .inr ⟨i, rfl, tl_pure t h r (.int _)⟩
/-- isinstance -/
inductive TyD (K : Kf) (μ : M) : Dv → Value → Prop where
  | non : TyD K μ .non (.type "NoneType")
  | bl (b : Bool) : TyD K μ (.bl b) (.type "bool")
  | int (i : Int) : TyD K μ (.int i) (.type "int")
  | str (x : Str) : TyD K μ (.str x) (.type "str")
  | lst (xs : List Dv) : TyD K μ (.lst xs) (.type "list")
  | tup (xs : List Dv) : TyD K μ (.tup xs) (.type "tuple")
  | lstM {a : Addr} {xs : List Dv} (h : μ a = some (.lst xs)) : TyD K μ (.obj a) (.type "list")
  | dicM {a : Addr} {xs : List (Key × Dv)} (h : μ a = some (.dic xs)) : TyD K μ (.obj a) (.type "dict")
  | ins {d : Dv} {C : Addr} {fs : List (Str × Dv)} (i : InsD μ d C fs) (cl : Cls K C) (ha : PySem.W.findIn K (.ref C) "__class__" = some (some (.builtin "object.__class__")))
      (hn : PySem.W.specialIn K (.builtin "object.__class__") "__get__" = some (some (.builtin "getset_descriptor.__get__"))) (htk : PySem.W.takesIn K (.builtin "object.__class__") = some true)
      (hm : PySem.W.mroIn K C (.type "object") = some true) : TyD K μ d (.ref C)
theorem TyD.rep {x : Dv} {t : Value} {H : Hp} {u : V} (h : TyD K μ x t) (r : Rep K μ H) (d : DRep K μ H u x) : TyX K H u t := by
  cases h with
  | non => cases d; exact .base .non
  | bl b => cases d; exact .base (.bl b)
  | int b => cases d; exact .base (.int b)
  | str b => cases d; exact .base (.str b)
  | lst xs => cases d with | lst h n r => exact .base (.lst h)
  | tup xs => cases d with | tup h n r => exact .base (.tup h)
  | lstM h => cases d; obtain ⟨vs, e, _⟩ := r _ _ h; exact .base (.lst e)
  | dicM h => cases d; obtain ⟨vs, e, _⟩ := r _ _ h; exact .base (.dK e)
  | ins i cl ha hn htk hm =>
    obtain ⟨a, dx, vs, rfl, e, _⟩ := i.rep r d
    exact .base (.ins e cl ha hn htk hm)
/-- a class as data -/
inductive ClD : Dv → Value → Prop where
  | ty (n : String) : ClD (.ty n) (.type n)
  | own (C : Addr) : ClD (.obj C) (.ref C)
theorem ClD.rep {c : Dv} {u : Value} {v : V} {H : Hp} (h : ClD c u) (d : DRep K μ H v c) : ClsV v u := by
  cases h with
  | ty n => cases d; exact .ty n
  | own C => cases d; exact .own C
inductive ClDs : List Dv → List Value → Prop where
  | nil : ClDs [] []
  | cons {c : Dv} {u : Value} {cs : List Dv} {us : List Value} (h : ClD c u) (t : ClDs cs us) : ClDs (c :: cs) (u :: us)
theorem ClDs.rep {H : Hp} : ∀ {cs : List Dv} {us : List Value} {vs : List V}, ClDs cs us → DReps K μ H vs cs → Paired ClsV vs us
  | _, _, _, .nil, .nil => .nil
  | _, _, _, .cons h t, .cons d r => .cons (h.rep d) (t.rep r)
def rIsiA (K : Kf) : List V → Hp → VK → Prop := fun xs H Q => rIsi K xs H Q ∨ rIsiT K xs H Q
theorem call_isiA : CallR X (.builtin "isinstance") (rIsiA X.K) := CallR.or call_isi call_isiT
theorem d_isi {x c : Dv} {t u : Value} {b : Bool} (hx : TyD K μ x t) (hc : ClD c u) (hb : PySem.W.kitOne K t u = some b) (h : k (.bl b) μ) : DCl K (rIsiA K) [x, c] μ k := fun us H Q r d q => by
  cases d with
  | cons d0 d1 =>
    cases d1 with
    | cons d1 d2 =>
      cases d2
      exact .inl ⟨_, _, t, u, b, rfl, hc.rep d1, hx.rep r d0, hb, tl_pure q h r (.bl _)⟩
theorem d_isiT {x : Dv} {cs : List Dv} {t : Value} {us : List Value} {b : Bool} (hx : TyD K μ x t) (hc : ClDs cs us) (hb : PySem.W.kitAny K t us = some b) (h : k (.bl b) μ) : DCl K (rIsiA K) [x, .tup cs] μ k := fun vs H Q r d q => by
  cases d with
  | cons d0 d1 =>
    cases d1 with
    | cons d1 d2 =>
      cases d2
      obtain ⟨a, ws, rfl, ha, ra⟩ := tup_rep d1
      exact .inr ⟨_, a, ws, t, us, b, rfl, ha, hc.rep ra, hx.rep r d0, hb, tl_pure q h r (.bl _)⟩
/-- xs.append(e), xs a mutable list -/
theorem je_append (h : JE X W KE o n μ fun d μ1 => ∃ a, d = .obj a ∧ (∃ xs, μ1 a = some (.lst xs)) ∧ JE X W KE e n μ1 fun y μ2 => ∃ xs, μ2 a = some (.lst xs) ∧ xs.length < sizeLine ∧ k .non (updM μ2 a (.lst (xs ++ [y]))))
    (hs : starEach [e] X.env = (false, eval e X.env) :: starEach [] X.env := by rfl)
    (ht : PE X (.Call (.Attribute o "append" apos) [e] [] pos) (tBM X.K "list" rAppend (cE X o) (cA X [e])) := by exact pe_bm PySem.F.plainAttrs_list PySem.F.slot_list_append PySem.F.type_list_append mt_append peC paC) :
    JE X W KE (.Call (.Attribute o "append" apos) [e] [] pos) n μ k :=
  je_of ht fun σ H Q ev rp t q => by
    refine h σ H _ ev rp t fun u x H1 μ1 h1 s1 r1 d1 => ?_
    obtain ⟨a, rfl, ⟨xs0, hx0⟩, h1⟩ := h1
    cases d1
    obtain ⟨vs0, e0, _⟩ := r1 _ _ hx0
    refine ⟨.inl ⟨rfl, _, SqL.of e0⟩, ?_⟩
    have h1' : JA X W KE [e] n μ1 fun ys μ2 => ∃ y, ys = [y] ∧ ∃ xs, μ2 a = some (.lst xs) ∧ xs.length < sizeLine ∧ k .non (updM μ2 a (.lst (xs ++ [y]))) := ja_one (h1.mono fun y μ2 z => ⟨y, rfl, z⟩) hs
    refine h1' σ H1 _ (ev.step s1) r1 (t.step s1) fun us ys H2 μ2 h2 s2 r2 d2 => ?_
    obtain ⟨y, rfl, xs, hx, hl, hk⟩ := h2
    cases d2 with
    | cons dy dn =>
      rename_i w _
      cases dn
      obtain ⟨vs, e2, rx⟩ := r2 _ _ hx
      have s3 := Step.mut (H := H2) (o := .lst (vs ++ [w])) (u := .lst (xs ++ [y])) hx
      exact ⟨a, vs, w, rfl, rfl, e2, by rw [rx.length]; exact hl, q _ _ _ _ hk ((s1.trans s2).trans s3) (r2.put s3 ⟨_, upd_same, (rx.step s3).append (.one (dy.step s3))⟩) .non⟩
end
end DL

/-! ## Statements, loops, comprehensions, defs -/
namespace DL
open PySem PySem.Spec L2

/-- what is wanted behind a statement, over data -/
structure Ed where
  nx : En → M → Prop
  rt : DK
  bk : En → M → Prop := fun _ _ => False
  ct : En → M → Prop := fun _ _ => False
structure TlS (K : Kf) (μ : M) (H : Hp) (P : Ed) (D : Ends) : Prop where
  nx : ∀ σ' e' H' μ', P.nx e' μ' → Env K μ' H' σ' e' → Step μ H μ' H' → Rep K μ' H' → D.nx σ' H'
  rt : Tl K μ H P.rt D.rt
  bk : ∀ σ' e' H' μ', P.bk e' μ' → Env K μ' H' σ' e' → Step μ H μ' H' → Rep K μ' H' → D.bk σ' H'
  ct : ∀ σ' e' H' μ', P.ct e' μ' → Env K μ' H' σ' e' → Step μ H μ' H' → Rep K μ' H' → D.ct σ' H'
theorem TlS.step {K : Kf} {μ μ1 : M} {H H1 : Hp} {P : Ed} {D : Ends} (s : Step μ H μ1 H1) (t : TlS K μ H P D) : TlS K μ1 H1 P D :=
  ⟨fun σ' e' H' μ' a b c => t.nx σ' e' H' μ' a b (s.trans c), t.rt.step s, fun σ' e' H' μ' a b c => t.bk σ' e' H' μ' a b (s.trans c), fun σ' e' H' μ' a b c => t.ct σ' e' H' μ' a b (s.trans c)⟩
section
variable (X : Cx) (W : WX) (KE : XD)
def JS (st : Stmt) (n : En) (μ : M) (P : Ed) : Prop := ∀ (σ : L2.St) (H : Hp) (D : Ends), Env X.K μ H σ n → Rep X.K μ H → Thr X.K W KE μ H → TlS X.K μ H P D → cS X st D σ H
def JB (st : List Stmt) (n : En) (μ : M) (P : Ed) : Prop := ∀ (σ : L2.St) (H : Hp) (D : Ends), Env X.K μ H σ n → Rep X.K μ H → Thr X.K W KE μ H → TlS X.K μ H P D → cB X st D σ H
end
section
variable {X : Cx} {W : WX} {KE : XD} {e a b c o : Expr} {es rest : List Expr} {st : Stmt} {sts A B : List Stmt} {n : En} {μ : M} {k : DK} {P : Ed} {pos pos' p apos : Pos} {x m f : Str} {K : Kf} {kl j i : Nat}
theorem js_of {t : TS} (h : PS X st t) (q : ∀ (σ : L2.St) (H : Hp) (D : Ends), Env X.K μ H σ n → Rep X.K μ H → Thr X.K W KE μ H → TlS X.K μ H P D → t D σ H) : JS X W KE st n μ P := fun σ H D a b c d pins s I => h.run pins s σ H D I (q σ H D a b c d)
theorem jb_of {t : TS} (h : PSs X sts t) (q : ∀ (σ : L2.St) (H : Hp) (D : Ends), Env X.K μ H σ n → Rep X.K μ H → Thr X.K W KE μ H → TlS X.K μ H P D → t D σ H) : JB X W KE sts n μ P := fun σ H D a b c d pins s I => h.run pins s σ H D I (q σ H D a b c d)
theorem tls_now {σ : L2.St} {H : Hp} {D : Ends} (t : TlS X.K μ H P D) (h : P.nx n μ) (ev : Env X.K μ H σ n) (r : Rep X.K μ H) : D.nx σ H := t.nx σ n H μ h ev (Step.refl _ _) r
theorem jb_nil (h : P.nx n μ) : JB X W KE [] n μ P := jb_of pss_nil fun σ H D ev rp t q => tls_now q h ev rp
theorem jb_cons (h : JS X W KE st n μ { P with nx := fun n' μ' => JB X W KE sts n' μ' P }) (ht : True := trivial) : JB X W KE (st :: sts) n μ P :=
  jb_of (pss_cons psC pbC) fun σ H D ev rp t q => by
    refine h σ H { D with nx := cB X sts D } ev rp t ⟨fun σ' e' H' μ' h1 ev1 s1 r1 => ?_, q.rt, q.bk, q.ct⟩
    exact h1 σ' H' D ev1 r1 (t.step s1) (q.step s1)
theorem jb_one (h : JS X W KE st n μ P) : JB X W KE [st] n μ P := jb_of (pss_one psC) fun σ H D ev rp t q => h σ H D ev rp t q
theorem JB.le {n' : En} (h : JB X W KE sts n' μ P) (l : LeE n n') : JB X W KE sts n μ P := fun σ H D ev rp t q => h σ H D (ev.le l) rp t q
theorem JS.mono {P' : Ed} (h : JS X W KE st n μ P) (h1 : ∀ a b, P.nx a b → P'.nx a b) (h2 : ∀ a b, P.rt a b → P'.rt a b) (h3 : ∀ a b, P.bk a b → P'.bk a b) (h4 : ∀ a b, P.ct a b → P'.ct a b) : JS X W KE st n μ P' := fun σ H D ev rp t q =>
  h σ H D ev rp t ⟨fun _ _ _ _ z => q.nx _ _ _ _ (h1 _ _ z), fun _ _ _ _ z => q.rt _ _ _ _ (h2 _ _ z), fun _ _ _ _ z => q.bk _ _ _ _ (h3 _ _ z), fun _ _ _ _ z => q.ct _ _ _ _ (h4 _ _ z)⟩
theorem JB.mono {P' : Ed} (h : JB X W KE sts n μ P) (h1 : ∀ a b, P.nx a b → P'.nx a b) (h2 : ∀ a b, P.rt a b → P'.rt a b) (h3 : ∀ a b, P.bk a b → P'.bk a b) (h4 : ∀ a b, P.ct a b → P'.ct a b) : JB X W KE sts n μ P' := fun σ H D ev rp t q =>
  h σ H D ev rp t ⟨fun _ _ _ _ z => q.nx _ _ _ _ (h1 _ _ z), fun _ _ _ _ z => q.rt _ _ _ _ (h2 _ _ z), fun _ _ _ _ z => q.bk _ _ _ _ (h3 _ _ z), fun _ _ _ _ z => q.ct _ _ _ _ (h4 _ _ z)⟩
theorem js_pass (h : P.nx n μ) : JS X W KE (.Pass pos) n μ P := js_of ps_pass fun σ H D ev rp t q => tls_now q h ev rp
theorem js_break (h : P.bk n μ) : JS X W KE (.Break pos) n μ P := js_of ps_break fun σ H D ev rp t q => q.bk σ n H μ h ev (Step.refl _ _) rp
theorem js_continue (h : P.ct n μ) : JS X W KE (.Continue pos) n μ P := js_of ps_continue fun σ H D ev rp t q => q.ct σ n H μ h ev (Step.refl _ _) rp
theorem js_set (i : Nat) (c : Cok kl X W) (hi : X.N[i]? = some x) (h : JE X W KE e n μ fun d μ' => P.nx (n.set i (some d)) μ') (hx : Loc X.env.scope x := by first | exact Or.inl rfl | exact Or.inr rfl)
    (hs : swapsWith e (some (.Name x pos')) pos.line X.env = pure false := by rfl) (hf : X.fn x = true ∨ X.env.scope.names.lookup x = some .local := by first | exact .inl rfl | exact .inr rfl) : JS X W KE (.Assign [.Name x pos'] e pos) n μ P :=
  js_of (ps_set c.nd hi hx peC hs hf) fun σ H D ev rp t q => by
    refine h σ H _ ev rp t fun v d H1 μ1 h1 s1 r1 d1 => ?_
    exact q.nx _ _ _ _ h1 ((ev.step s1).set d1 i) s1 r1
theorem js_expr (h : JE X W KE e n μ fun _ μ' => P.nx n μ') (hs : swapsWith e none pos.line X.env = pure false := by rfl) : JS X W KE (.Expr e pos) n μ P :=
  js_of (ps_expr peC hs) fun σ H D ev rp t q => by
    refine h σ H _ ev rp t fun v d H1 μ1 h1 s1 r1 d1 => ?_
    exact q.nx _ _ _ _ h1 (ev.step s1) s1 r1
theorem js_ret (h : JE X W KE e n μ P.rt) : JS X W KE (.Return (some e) pos) n μ P := js_of (ps_ret peC) fun σ H D ev rp t q => h σ H _ ev rp t q.rt
theorem js_retN (h : P.rt .non μ) : JS X W KE (.Return none pos) n μ P := js_of ps_retN fun σ H D ev rp t q => tl_pure q.rt h rp .non
theorem js_if (h : JT X W KE c n μ fun b μ' => (b = true → JB X W KE A n μ' P) ∧ (b = false → JB X W KE B n μ' P)) : JS X W KE (.If c A B pos) n μ P :=
  js_of (ps_if ptC pbC pbC) fun σ H D ev rp t q => by
    refine h σ H _ ev rp t fun u H1 μ1 h1 s1 r1 => ?_
    cases u with
    | true => rw [if_pos rfl]; exact h1.1 rfl σ H1 D (ev.step s1) r1 (t.step s1) (q.step s1)
    | false => rw [if_neg Bool.false_ne_true]; exact h1.2 rfl σ H1 D (ev.step s1) r1 (t.step s1) (q.step s1)
theorem js_augI (i : Nat) {op : Operator} {g : Int → Int → Int} {z : Int} (c : Cok kl X W) (hi : X.N[i]? = some x) (ho : PIp X op (ipI g)) (hn : n[i]? = some (some (.int z))) (h : JE X W KE e n μ fun d μ' => ∃ y, d = .int y ∧ P.nx (n.set i (some (.int (g z y)))) μ')
    (hx : Loc X.env.scope x := by first | exact Or.inl rfl | exact Or.inr rfl) (hf : X.fn x = true ∨ X.env.scope.names.lookup x = some .local := by first | exact .inl rfl | exact .inr rfl) : JS X W KE (.AugAssign (.Name x pos') op e pos) n μ P :=
  js_of (ps_aug c.nd hi hx peC ho hf) fun σ H D ev rp t q => by
    obtain ⟨v, h1, h2⟩ := ev.2 i _ hn
    cases h2
    refine ⟨.int z, h1, ?_⟩
    refine h σ H _ ev rp t fun w d H1 μ1 h1 s1 r1 d1 => ?_
    obtain ⟨y, rfl, h3⟩ := h1
    cases d1
    exact ⟨z, y, rfl, rfl, q.nx _ _ _ _ h3 ((ev.step s1).set (.int _) i) s1 r1⟩
/-- o.f = e, o a mutable instance -/
theorem js_fld (h : JE X W KE e n μ fun y μ1 => JE X W KE o n μ1 fun d μ2 => ∃ a C fs, d = .obj a ∧ μ2 a = some (.ins C fs) ∧ Cls X.K C ∧ NoAttr X.K C f ∧ fs.length < 1000 ∧ P.nx n (updM μ2 a (.ins C (putD f y fs))))
    (hs : swapsWith e (some (.Attribute o f pos')) pos.line X.env = pure false := by rfl) : JS X W KE (.Assign [.Attribute o f pos'] e pos) n μ P :=
  js_of (ps_fld peC peC hs) fun σ H D ev rp t q => by
    refine h σ H _ ev rp t fun w y H1 μ1 h1 s1 r1 d1 => ?_
    refine h1 σ H1 _ (ev.step s1) r1 (t.step s1) fun u d H2 μ2 h2 s2 r2 d2 => ?_
    obtain ⟨a, C, fs, rfl, ha, cl, na, hl, hk⟩ := h2
    cases d2
    obtain ⟨dx, vs, e2, fr⟩ := r2 _ _ ha
    refine ⟨a, C, dx, vs, rfl, e2, cl, na, by rw [fr.length]; exact hl, ?_⟩
    have s3 := Step.mut (H := H2) (o := .ins C dx (putF f w vs)) (u := .ins C (putD f y fs)) ha
    have s123 := (s1.trans s2).trans s3
    exact q.nx _ _ _ _ hk (ev.step s123) s123 (r2.put s3 ⟨dx, _, upd_same, (fr.step s3).put ((d1.step s2).step s3)⟩)
/-- a, b = e and a, b, c = e, e a tuple -/
theorem js_tup2 (i1 i2 : Nat) {x1 x2 : Str} {p1 p2 p3 : Pos} {kk} (c : Cok kl X W) (h1 : X.N[i1]? = some x1) (h2 : X.N[i2]? = some x2)
    (h : JE X W KE e n μ fun d μ' => ∃ d1 d2, d = .tup [d1, d2] ∧ P.nx ((n.set i1 (some d1)).set i2 (some d2)) μ')
    (hl1 : Loc X.env.scope x1 := by first | exact Or.inl rfl | exact Or.inr rfl) (hl2 : Loc X.env.scope x2 := by first | exact Or.inl rfl | exact Or.inr rfl)
    (hf1 : X.fn x1 = true ∨ X.env.scope.names.lookup x1 = some .local := by first | exact .inl rfl | exact .inr rfl) (hf2 : X.fn x2 = true ∨ X.env.scope.names.lookup x2 = some .local := by first | exact .inl rfl | exact .inr rfl)
    (ht : PG X (.Tuple [.Name x1 p1, .Name x2 p2] kk p3) (gTup X.K 2 (gCons (gName i1) (gCons (gName i2) gNil))) := by exact pg_tup (by first | rfl | assumption) (pgs_cons (pg_name (by assumption) (by assumption) (by assumption) (by assumption)) (pgs_cons (pg_name (by assumption) (by assumption) (by assumption) (by assumption)) pgs_nil)))
    (hs : swapsWithSole [.Tuple [.Name x1 p1, .Name x2 p2] kk p3] e pos.line X.env = pure false := by rfl) (hw : swappedStores [.Tuple [.Name x1 p1, .Name x2 p2] kk p3] e X.env = pure none := by rfl)
    (ha : (assignEach [.Tuple [.Name x1 p1, .Name x2 p2] kk p3] X.env).map (·.2) = [assign (.Tuple [.Name x1 p1, .Name x2 p2] kk p3) X.env] := by rfl) : JS X W KE (.Assign [.Tuple [.Name x1 p1, .Name x2 p2] kk p3] e pos) n μ P :=
  js_of (ps_asg peC ht hs hw ha) fun σ H D ev rp t q => by
    refine h σ H _ ev rp t fun w d H1 μ1 h1 s1 r1 q1 => ?_
    obtain ⟨d1, d2, rfl, hk⟩ := h1
    obtain ⟨a, vs, rfl, e1, fr⟩ := tup_rep q1
    cases fr with
    | cons f1 fr =>
      cases fr with
      | cons f2 fr =>
        cases fr
        exact ⟨a, _, rfl, SqT.of e1, rfl, _, _, rfl, _, _, rfl, rfl, q.nx _ _ _ _ hk (((ev.step s1).set f1 i1).set f2 i2) s1 r1⟩

/-! ### what is walked -/
inductive Src where
  | seq (d : Dv) (xs : List Dv) | tup (xs : List Dv) | rng (lo : Int) (n : Nat) | str (z : Str) | rgc (lo c : Int) (n : Nat) | dky (a : Addr) (ks : List Key)
def keyD : Key → Dv
  | .inl i => .int i
  | .inr x => .str x
def Src.items : Src → List Dv
  | .seq _ xs => xs
  | .tup xs => xs
  | .rng lo n => (List.range n).map fun (i : Nat) => .int (lo + (i : Int))
  | .str z => z.cps.toList.map fun c => .str ⟨#[c]⟩
  | .rgc lo c n => (List.range n).map fun (i : Nat) => .int (lo + (i : Int) * c)
  | .dky _ ks => ks.map keyD
/-- the walked thing stands -/
def Src.Ok (μ : M) : Src → Prop
  | .seq d xs => SqD μ d xs
  | .dky a ks => ∃ kvs, μ a = some (.fdc kvs) ∧ kvs.map (·.1) = ks
  | _ => True
def SrcRep (K : Kf) (μ : M) (H : Hp) : Src → It → Prop
  | .seq d xs, J => ∃ a, DRep K μ H (.ref a) d ∧ J = Itl K a
  | .tup xs, J => ∃ a, DRep K μ H (.ref a) (.tup xs) ∧ J = Itt K a
  | .rng lo n, J => J = Itr lo n
  | .str z, J => J = Its z
  | .rgc lo c n, J => J = Itc lo c n
  | .dky a ks, J => ∃ o kvs vs, μ a = some (.fdc kvs) ∧ H a = some (.frz o (.dK vs)) ∧ J = Itk a o vs ∧ vs.map (·.1) = ks
theorem SrcRep.step {μ' : M} {H H' : Hp} {s : Src} {J : It} (st : Step μ H μ' H') (h : SrcRep K μ H s J) : SrcRep K μ' H' s J := by
  cases s with
  | seq d xs => obtain ⟨a, r, e⟩ := h; exact ⟨a, r.step st, e⟩
  | tup xs => obtain ⟨a, r, e⟩ := h; exact ⟨a, r.step st, e⟩
  | rng lo n => exact h
  | str z => exact h
  | rgc lo c n => exact h
  | dky a ks => obtain ⟨o, kvs, vs, e1, e2, e3⟩ := h; exact ⟨o, kvs, vs, (st.l a _ _ e2 e1).2, (st.l a _ _ e2 e1).1, e3⟩
theorem src_turn {H : Hp} {s : Src} {J : It} (h : SrcRep K μ H s J) (r : Rep K μ H) (ok : s.Ok μ) : (s.items.length ≤ i → J.stop i H) ∧ ∀ x, s.items[i]? = some x → J.go i H ∧ ∀ v H', J.yld i H v H' → H' = H ∧ DRep K μ H v x := by
  cases s with
  | seq d xs =>
    obtain ⟨a, rr, rfl⟩ := h
    obtain ⟨a', vs, ea, ha, ra⟩ := (show SqD μ d xs from ok).rep r rr
    cases ea
    refine ⟨fun hl => ⟨vs, ha, by rw [ra.length]; exact hl⟩, fun x hx => ?_⟩
    obtain ⟨v, h1, h2⟩ := ra.get hx
    exact ⟨⟨vs, v, ha, h1⟩, fun v' H' ⟨e, y⟩ => ⟨e, by have := y vs ha; rw [h1] at this; cases this; exact h2⟩⟩
  | tup xs =>
    obtain ⟨a, rr, rfl⟩ := h
    obtain ⟨a', vs, ea, ha, ra⟩ := tup_rep rr
    cases ea
    refine ⟨fun hl => ⟨vs, SqT.of ha, by rw [ra.length]; exact hl⟩, fun x hx => ?_⟩
    obtain ⟨v, h1, h2⟩ := ra.get hx
    exact ⟨⟨vs, v, SqT.of ha, h1⟩, fun v' H' ⟨e, y⟩ => ⟨e, by have := y vs (SqT.of ha); rw [h1] at this; cases this; exact h2⟩⟩
  | rng lo n =>
    cases h
    refine ⟨fun hl => by have z : n ≤ i := by simpa [Src.items] using hl
                         exact z, fun x hx => ?_⟩
    have hx' : ((List.range n).map fun (i : Nat) => Dv.int (lo + (i : Int)))[i]? = some x := hx
    rw [List.getElem?_map] at hx'
    have hi : i < n := by
      by_cases z : i < n
      · exact z
      · rw [List.getElem?_eq_none (by simpa using z)] at hx'; cases hx'
    rw [List.getElem?_range hi] at hx'
    cases hx'
    exact ⟨hi, fun v H' ⟨e, y⟩ => ⟨e, by rw [y]; exact .int _⟩⟩
  | rgc lo c n =>
    cases h
    refine ⟨fun hl => by have z : n ≤ i := by simpa [Src.items] using hl
                         exact z, fun x hx => ?_⟩
    have hx' : ((List.range n).map fun (i : Nat) => Dv.int (lo + (i : Int) * c))[i]? = some x := hx
    rw [List.getElem?_map] at hx'
    have hi : i < n := by
      by_cases z : i < n
      · exact z
      · rw [List.getElem?_eq_none (by simpa using z)] at hx'; cases hx'
    rw [List.getElem?_range hi] at hx'
    cases hx'
    exact ⟨hi, fun v H' ⟨e, y⟩ => ⟨e, by rw [y]; exact .int _⟩⟩
  | dky a ks =>
    obtain ⟨o, kvs, vs, e1, e2, rfl, hk⟩ := h
    subst hk
    refine ⟨fun hl => ⟨e2, by have z : vs.length ≤ i := by simpa [Src.items] using hl
                              exact z⟩, fun x hx => ?_⟩
    have hx' : ((vs.map (·.1)).map keyD)[i]? = some x := hx
    rw [List.getElem?_map, List.getElem?_map] at hx'
    cases ev : vs[i]? with
    | none => rw [ev] at hx'; cases hx'
    | some kv =>
      rw [ev] at hx'
      cases hx'
      refine ⟨⟨e2, (List.getElem?_eq_some_iff.mp ev).1⟩, fun v H' ⟨e, k', v', q1, q2⟩ => ⟨e, ?_⟩⟩
      rw [ev] at q1
      cases q1
      subst q2
      cases k' with
      | inl i => exact .int i
      | inr z => exact .str z
  | str z =>
    cases h
    refine ⟨fun hl => by have y : z.cps.size ≤ i := by simpa [Src.items] using hl
                         exact y, fun x hx => ?_⟩
    have hx' : (z.cps.toList.map fun c => Dv.str ⟨#[c]⟩)[i]? = some x := hx
    rw [List.getElem?_map] at hx'
    cases ec : z.cps.toList[i]? with
    | none => rw [ec] at hx'; cases hx'
    | some c =>
      rw [ec] at hx'
      cases hx'
      have ec' : z.cps[i]? = some c := by simpa using ec
      refine ⟨?_, fun v H' ⟨e, c', q1, q2⟩ => ⟨e, ?_⟩⟩
      · show i < z.cps.size
        exact (Array.getElem?_eq_some_iff.mp ec').1
      · rw [ec'] at q1; cases q1; rw [q2]; exact .str _
def cI (X : Cx) (tg iter : Expr) : TI := fun σ H R => ∀ (pins : List (Addr × Obj)) (s : Shared), Inv X pins σ H s → wpAny (model X.prog X.w) X.A (eval iter X.env) (fun v s1 => wpAny (model X.prog X.w) X.A (pyIter v) (PIE X pins σ tg R) X.xe s1) X.xe s
theorem piC {tg iter : Expr} : PI X tg iter (cI X tg iter) := ⟨fun pins s _ _ _ I h => h pins s I⟩
def JI (X : Cx) (W : WX) (KE : XD) (tg iter : Expr) (n : En) (μ : M) (ks : Src → M → Prop) : Prop := ∀ (σ : L2.St) (H : Hp) (R : It → Hp → Prop), Env X.K μ H σ n → Rep X.K μ H → Thr X.K W KE μ H →
  (∀ s J H' μ', ks s μ' → s.Ok μ' → SrcRep X.K μ' H' s J → Step μ H μ' H' → Rep X.K μ' H' → R J H') → cI X tg iter σ H R
theorem ji_of {tg iter : Expr} {ks : Src → M → Prop} {wi : TI} (h : PI X tg iter wi) (q : ∀ (σ : L2.St) (H : Hp) (R : It → Hp → Prop), Env X.K μ H σ n → Rep X.K μ H → Thr X.K W KE μ H →
  (∀ s J H' μ', ks s μ' → s.Ok μ' → SrcRep X.K μ' H' s J → Step μ H μ' H' → Rep X.K μ' H' → R J H') → wi σ H R) : JI X W KE tg iter n μ ks := fun σ H R a b c d pins s I => h.run pins s σ H R I (q σ H R a b c d)
theorem ji_seq {tg iter : Expr} {ks : Src → M → Prop} (h : JE X W KE iter n μ fun d μ1 => ∃ xs, SqD μ1 d xs ∧ ks (.seq d xs) μ1) : JI X W KE tg iter n μ ks :=
  ji_of (pi_list peC) fun σ H R ev rp t q => by
    refine h σ H _ ev rp t fun v d H1 μ1 h1 s1 r1 d1 => ?_
    obtain ⟨xs, l, hk⟩ := h1
    obtain ⟨a, vs, rfl, ha, ra⟩ := l.rep r1 d1
    exact ⟨a, rfl, ⟨vs, ha⟩, q (.seq d xs) _ _ _ hk l ⟨a, d1, rfl⟩ s1 r1⟩
theorem ji_tup {tg iter : Expr} {ks : Src → M → Prop} (h : JE X W KE iter n μ fun d μ1 => ∃ xs, d = .tup xs ∧ ks (.tup xs) μ1) : JI X W KE tg iter n μ ks :=
  ji_of (pi_tup peC) fun σ H R ev rp t q => by
    refine h σ H _ ev rp t fun v d H1 μ1 h1 s1 r1 d1 => ?_
    obtain ⟨xs, rfl, hk⟩ := h1
    obtain ⟨a, vs, rfl, ha, ra⟩ := tup_rep d1
    exact ⟨a, rfl, ⟨vs, SqT.of ha⟩, q (.tup xs) _ _ _ hk trivial ⟨a, d1, rfl⟩ s1 r1⟩
theorem ji_str {tg iter : Expr} {ks : Src → M → Prop} (h : JE X W KE iter n μ fun d μ1 => ∃ z, d = .str z ∧ ks (.str z) μ1) : JI X W KE tg iter n μ ks :=
  ji_of (pi_str peC) fun σ H R ev rp t q => by
    refine h σ H _ ev rp t fun v d H1 μ1 h1 s1 r1 d1 => ?_
    obtain ⟨z, rfl, hk⟩ := h1
    cases d1
    exact ⟨z, rfl, q (.str z) _ _ _ hk trivial rfl s1 r1⟩
theorem ji_keys {tg iter : Expr} {ks : Src → M → Prop} (h : JE X W KE iter n μ fun d μ1 => ∃ a kvs, d = .obj a ∧ μ1 a = some (.fdc kvs) ∧ ks (.dky a (kvs.map (·.1))) μ1) : JI X W KE tg iter n μ ks :=
  ji_of (pi_keys peC) fun σ H R ev rp t q => by
    refine h σ H _ ev rp t fun v d H1 μ1 h1 s1 r1 d1 => ?_
    obtain ⟨a, kvs, rfl, ha, hk⟩ := h1
    cases d1
    obtain ⟨o, vs, e, rr⟩ := r1 _ _ ha
    exact ⟨a, o, rfl, .inl ⟨vs, e, q (.dky a (kvs.map (·.1))) _ _ _ hk ⟨kvs, ha, rfl⟩ ⟨o, kvs, vs, ha, e, rfl, rr.keys⟩ s1 r1⟩⟩
theorem ji_range1 {tg : Expr} {ks : Src → M → Prop} (hm : X.mg "range" = none) (h : JA X W KE [a] n μ fun ds μ1 => ∃ j : Int, ds = [.int j] ∧ -(2 ^ 62) ≤ j ∧ j < 2 ^ 62 ∧ ks (.rng 0 j.toNat) μ1) (hg : Gl X "range" := by rfl)
    (hs : starEach [a] X.env = [(false, eval a X.env)] := by rfl) : JI X W KE tg (.Call (.Name "range" p) [a] [] pos) n μ ks :=
  ji_of (pi_range1 hg hm paC hs) fun σ H R ev rp t q => by
    refine h σ H _ ev rp t fun vs ds H1 μ1 h1 s1 r1 d1 => ?_
    obtain ⟨j, rfl, l1, l2, hk⟩ := h1
    cases d1 with
    | cons d0 dn =>
      cases dn; cases d0
      exact ⟨j, rfl, l1, l2, q (.rng 0 j.toNat) _ _ _ hk trivial rfl s1 r1⟩
theorem ji_range2 {tg : Expr} {ks : Src → M → Prop} (hm : X.mg "range" = none) (h : JA X W KE [a, b] n μ fun ds μ1 => ∃ i j : Int, ds = [.int i, .int j] ∧ (-(2 ^ 62) ≤ i ∧ i < 2 ^ 62 ∧ -(2 ^ 62) ≤ j ∧ j < 2 ^ 62) ∧ ks (.rng i (j - i).toNat) μ1) (hg : Gl X "range" := by rfl)
    (hs : starEach [a, b] X.env = [(false, eval a X.env), (false, eval b X.env)] := by rfl) (hs2 : starEach [b] X.env = [(false, eval b X.env)] := by rfl) : JI X W KE tg (.Call (.Name "range" p) [a, b] [] pos) n μ ks :=
  ji_of (pi_range2 hg hm paC hs hs2) fun σ H R ev rp t q => by
    refine h σ H _ ev rp t fun vs ds H1 μ1 h1 s1 r1 d1 => ?_
    obtain ⟨i, j, rfl, l1, hk⟩ := h1
    cases d1 with
    | cons d0 dn =>
      cases dn with
      | cons d1 dn =>
        cases dn; cases d0; cases d1
        exact ⟨i, j, rfl, l1, q (.rng i (j - i).toNat) _ _ _ hk trivial rfl s1 r1⟩
theorem ji_range3 {c : Expr} {tg : Expr} {ks : Src → M → Prop} (hm : X.mg "range" = none) (h : JA X W KE [a, b, c] n μ fun ds μ1 => ∃ (i j s : Int) (m : Nat), ds = [.int i, .int j, .int s] ∧ RgC i j s m ∧ ks (.rgc i s m) μ1) (hg : Gl X "range" := by rfl)
    (hs : starEach [a, b, c] X.env = (false, eval a X.env) :: starEach [b, c] X.env := by rfl) (hpl : (backTo pos (starEach [b, c] X.env)).any (·.1) = false := by rfl) : JI X W KE tg (.Call (.Name "range" p) [a, b, c] [] pos) n μ ks :=
  ji_of (pi_range3 hg hm paC hs hpl) fun σ H R ev rp t q => by
    refine h σ H _ ev rp t fun vs ds H1 μ1 h1 s1 r1 d1 => ?_
    obtain ⟨i, j, s, m, rfl, l1, hk⟩ := h1
    cases d1 with
    | cons d0 dn =>
      cases dn with
      | cons d1 dn =>
        cases dn with
        | cons d2 dn =>
          cases dn; cases d0; cases d1; cases d2
          exact ⟨i, j, s, m, rfl, l1, q (.rgc i s m) _ _ _ hk trivial rfl s1 r1⟩

/-- a for, by a word over the turn, the names, the store -/
theorem js_for (i : Nat) {tg iter : Expr} (cn : X.calm = true) (ow : PassesOwn (model X.prog X.w) X.A X.env X.xe) (hg : PG X tg (gName i))
    (h : JI X W KE tg iter n μ fun s μ1 => ∃ Iv : Nat → En → M → Prop, Iv 0 n μ1 ∧ (∀ j n' μ', Iv j n' μ' → s.Ok μ') ∧
      (∀ j x n' μ', s.items[j]? = some x → Iv j n' μ' → JB X W KE A (n'.set i (some x)) μ' { nx := Iv (j + 1), ct := Iv (j + 1), bk := P.nx, rt := P.rt }) ∧ ∀ n' μ', Iv s.items.length n' μ' → P.nx n' μ') (hs : ∀ x, foldedSetIterable iter X.env x = pure x := by intro _; rfl) : JS X W KE (.For tg iter A [] pos) n μ P :=
  js_of (ps_for ow cn piC hg pbC hs) fun σ H D ev rp t q => by
    refine h σ H _ ev rp t fun s J H1 μ1 h1 ok1 sr1 s1 r1 => ?_
    obtain ⟨Iv, h0, hok, hturn, hend⟩ := h1
    refine ⟨fun j m σ' H' => m = s.items.length - j ∧ j ≤ s.items.length ∧ ∃ n' μ', Iv j n' μ' ∧ Env X.K μ' H' σ' n' ∧ Step μ H μ' H' ∧ Rep X.K μ' H' ∧ SrcRep X.K μ' H' s J, ⟨s.items.length, by simp, Nat.zero_le _, n, μ1, h0, ev.step s1, s1, r1, sr1⟩, ?_⟩
    rintro j m σ' H' ⟨rfl, hj, n', μ', iv, ev', st', rp', sr'⟩
    have T := src_turn (i := j) sr' rp' (hok j n' μ' iv)
    by_cases hlt : j < s.items.length
    · obtain ⟨hgo, hy⟩ := T.2 _ (List.getElem?_eq_getElem hlt)
      refine .inr ⟨hgo, fun σ2 H2 => ∃ n2 μ2, Iv (j + 1) n2 μ2 ∧ Env X.K μ2 H2 σ2 n2 ∧ Step μ H μ2 H2 ∧ Rep X.K μ2 H2 ∧ SrcRep X.K μ2 H2 s J, fun σ2 H2 z => ⟨s.items.length - (j + 1), by omega, rfl, hlt, z⟩, fun v H2 yv => ?_⟩
      obtain ⟨rfl, dv⟩ := hy v H2 yv
      refine hturn j _ n' μ' (List.getElem?_eq_getElem hlt) iv (σ'.set i (some v)) _ _ (ev'.set dv i) rp' (t.step st') ⟨fun σ2 e2 H2 μ2 a b c d => ?_, q.rt.step st', fun σ2 e2 H2 μ2 a b c d => ?_, fun σ2 e2 H2 μ2 a b c d => ?_⟩
      · exact ⟨e2, μ2, a, b, st'.trans c, d, sr'.step c⟩
      · exact q.nx _ _ _ _ a b (st'.trans c) d
      · exact ⟨e2, μ2, a, b, st'.trans c, d, sr'.step c⟩
    · have e : j = s.items.length := by omega
      subst e
      exact .inl ⟨T.1 (Nat.le_refl _), q.nx _ _ _ _ (hend n' μ' iv) ev' st' rp'⟩
/-- while, by a word and a measure -/
theorem js_while (ow : PassesOwn (model X.prog X.w) X.A X.env X.xe) (Iv : Nat → En → M → Prop) (m0 : Nat) (h0 : Iv m0 n μ)
    (hs : ∀ m n' μ', Iv m n' μ' → JT X W KE c n' μ' fun b μ2 => (b = true → JB X W KE A n' μ2 { nx := fun n3 μ3 => ∃ m', m' < m ∧ Iv m' n3 μ3, ct := fun n3 μ3 => ∃ m', m' < m ∧ Iv m' n3 μ3, bk := P.nx, rt := P.rt }) ∧ (b = false → P.nx n' μ2)) : JS X W KE (.While c A [] pos) n μ P :=
  js_of (ps_while ow ptC pbC) fun σ H D ev rp t q => by
    refine ⟨fun m σ' H' => ∃ n' μ', Iv m n' μ' ∧ Env X.K μ' H' σ' n' ∧ Step μ H μ' H' ∧ Rep X.K μ' H', ⟨m0, n, μ, h0, ev, Step.refl _ _, rp⟩, ?_⟩
    rintro m σ' H' ⟨n', μ', iv, ev', st', rp'⟩
    refine hs m n' μ' iv σ' H' _ ev' rp' (t.step st') fun b H2 μ2 h2 s2 r2 => ?_
    have st2 := st'.trans s2
    cases b with
    | true =>
      rw [if_pos rfl]
      refine ⟨fun σ3 H3 => ∃ m', m' < m ∧ ∃ n3 μ3, Iv m' n3 μ3 ∧ Env X.K μ3 H3 σ3 n3 ∧ Step μ H μ3 H3 ∧ Rep X.K μ3 H3, fun σ3 H3 z => z, ?_⟩
      refine h2.1 rfl σ' H2 _ (ev'.step s2) r2 (t.step st2) ⟨fun σ3 e3 H3 μ3 a b c d => ?_, q.rt.step st2, fun σ3 e3 H3 μ3 a b c d => ?_, fun σ3 e3 H3 μ3 a b c d => ?_⟩
      · obtain ⟨m', l, z⟩ := a
        exact ⟨m', l, e3, μ3, z, b, st2.trans c, d⟩
      · exact q.nx _ _ _ _ a b (st2.trans c) d
      · obtain ⟨m', l, z⟩ := a
        exact ⟨m', l, e3, μ3, z, b, st2.trans c, d⟩
    | false =>
      rw [if_neg Bool.false_ne_true]
      exact q.nx _ _ _ _ (h2.2 rfl) (ev'.step s2) st2 r2
end
end DL

/-! ## Comprehensions, defs, the law's end -/
namespace DL
open PySem PySem.Spec L2
abbrev W0 : WX := fun _ _ _ _ => False
abbrev KE0 : XD := fun _ _ _ _ => False
theorem Thr.no {K : Kf} {μ : M} {H : Hp} : Thr K W0 KE0 μ H := fun _ _ _ _ _ _ _ h => False.elim h
theorem Cok.blk {kl : Nat} {X : Cx} {W : WX} (c : Cok kl X W) {s : Shared} {H : Hp} {scope : Scope} {env : PySem.Env} {fp : List Addr} : Cok kl (X.blk s H scope env fp) W0 := ⟨c.room, c.calm, takes0, c.nd⟩
section
variable {X : Cx} {W : WX} {KE : XD} {tg iter elt e a b c o : Expr} {ifs es rest : List Expr} {st : Stmt} {sts A B : List Stmt} {n : En} {μ : M} {k : DK} {P : Ed} {pos pos' p apos : Pos} {x m f y : Str} {K : Kf} {kl j i : Nat} {scope : Scope}
def tIfs (X : Cx) : List Expr → TT
  | [] => tYes
  | [c] => cT X c
  | _ => fun _ _ _ => False
theorem ptsC {ifs : List Expr} : PTs X ifs (tIfs X ifs) := by
  match ifs with
  | [] => exact pts_nil
  | [c] => exact pts_one ptC
  | _ :: _ :: _ => exact ⟨fun _ _ _ _ _ _ h => h.elim⟩
def JIf (X : Cx) (W : WX) (KE : XD) : List Expr → En → M → (Bool → M → Prop) → Prop
  | [], _, μ, kb => kb true μ
  | [c], n, μ, kb => JT X W KE c n μ kb
  | _, _, _, _ => False
theorem JIf.run {ifs : List Expr} {kb : Bool → M → Prop} (h : JIf X W KE ifs n μ kb) {σ : L2.St} {H : Hp} {Q : Bool → Hp → Prop} (ev : Env X.K μ H σ n) (rp : Rep X.K μ H) (t : Thr X.K W KE μ H) (q : TlB X.K μ H kb Q) : tIfs X ifs σ H Q := by
  match ifs, h with
  | [], h => exact q _ _ μ h (Step.refl _ _) rp
  | [c], h => exact h σ H Q ev rp t q
/-- one turn of a comprehension: the test, then the element -/
def LcTurn (X : Cx) (scope : Scope) (ifs : List Expr) (elt : Expr) (n : En) (μ : M) (ko : Option Dv → M → Prop) : Prop :=
  ∀ (s : Shared) (H : Hp) (C : Addr) (cl : List (Str × Addr)) (fp : List Addr), JIf (X.blk s H scope (compEnvC scope cl C X.env) fp) W0 KE0 ifs n μ fun b μ2 =>
    (b = true → ∀ (s : Shared) (H : Hp) (C : Addr) (cl : List (Str × Addr)) (fp : List Addr), JE (X.blk s H scope (compEnvC scope cl C X.env) fp) W0 KE0 elt n μ2 fun y μ3 => ko (some y) μ3) ∧ (b = false → ko none μ2)
/-- the comprehension's list, as it is from now on -/
def LcEnd (μ : M) (a : Addr) (acc : List Dv) (k : DK) : Prop := k (.lst acc) (delM μ a) ∨ (μ a = some (.lst acc) ∧ k (.obj a) μ)
def LcAll (X : Cx) (scope : Scope) (ifs : List Expr) (elt : Expr) (i : Nat) (n : En) (k : DK) (s : Src) (μ1 : M) : Prop := ∀ a, μ1 a = none → ∃ Iv : Nat → List Dv → M → Prop, Iv 0 [] (updM μ1 a (.lst [])) ∧
  (∀ j acc μ', Iv j acc μ' → s.Ok μ' ∧ μ' a = some (.lst acc) ∧ acc.length < sizeLine) ∧
  (∀ j x acc μ', s.items[j]? = some x → Iv j acc μ' → LcTurn X scope ifs elt ((n.set i none).set i (some x)) μ' fun o μ3 => match o with
    | some y => μ3 a = some (.lst acc) ∧ Iv (j + 1) (acc ++ [y]) (updM μ3 a (.lst (acc ++ [y])))
    | none => Iv (j + 1) acc μ3) ∧
  ∀ acc μ', Iv s.items.length acc μ' → LcEnd μ' a acc k
abbrev tIfF (X : Cx) (scope : Scope) (ifs : List Expr) : TT := fun σ H Q => ∀ (s : Shared) (H0 : Hp) (C : Addr) (cl : List (Str × Addr)) (fp : List Addr), tIfs (X.blk s H0 scope (compEnvC scope cl C X.env) fp) ifs σ H Q
abbrev tElF (X : Cx) (scope : Scope) (elt : Expr) : TE := fun σ H Q => ∀ (s : Shared) (H0 : Hp) (C : Addr) (cl : List (Str × Addr)) (fp : List Addr), cE (X.blk s H0 scope (compEnvC scope cl C X.env) fp) elt σ H Q
theorem tIfF_ok (s : Shared) (H : Hp) (C : Addr) (cl : List (Str × Addr)) (fp : List Addr) : PTs (X.blk s H scope (compEnvC scope cl C X.env) fp) ifs (tIfF X scope ifs) := ⟨fun pins s' σ H' Q I h => ptsC.run pins s' σ H' Q I (h s H C cl fp)⟩
theorem tElF_ok (s : Shared) (H : Hp) (C : Addr) (cl : List (Str × Addr)) (fp : List Addr) : PE (X.blk s H scope (compEnvC scope cl C X.env) fp) elt (tElF X scope elt) := ⟨fun pins s' σ H' Q I h => h s H C cl fp pins s' I⟩
theorem lc_run (h : JI X W KE tg iter n μ fun s μ1 => LcAll X scope ifs elt i n k s μ1) {σ : L2.St} {H : Hp} {Q : VK} (ev : Env X.K μ H σ n) (rp : Rep X.K μ H) (t : Thr X.K W KE μ H) (q : Tl X.K μ H k Q) :
    tLc (cI X tg iter) (gName i) (tIfF X scope ifs) (tElF X scope elt) [i] σ H Q := by
  refine h σ H _ ev rp t fun s J H1 μ1 h1 ok1 sr1 s1 r1 => fun D hD => ?_
  obtain ⟨Iv, h0, hok, hturn, hend⟩ := h1 D (r1.free hD)
  have sN : Step μ1 H1 (updM μ1 D (.lst [])) (upd H1 D (.lst [])) := Step.newM hD
  have evW : ∀ {μ' : M} {H' : Hp}, Step μ H μ' H' → Env X.K μ' H' (wipe σ [i]) (n.set i none) := fun st => (ev.step st).wipe [i]
  refine ⟨fun j m H' => m = s.items.length - j ∧ j ≤ s.items.length ∧ ∃ acc μ', Iv j acc μ' ∧ Step μ H μ' H' ∧ Rep X.K μ' H' ∧ SrcRep X.K μ' H' s J, ⟨s.items.length, by simp, Nat.zero_le _, [], _, h0, s1.trans sN, r1.put sN ⟨[], upd_same, .nil⟩, sr1.step sN⟩, ?_⟩
  rintro j m H' ⟨rfl, hj, acc, μ', iv, st', rp', sr'⟩
  obtain ⟨ok', ha', hl'⟩ := hok j acc μ' iv
  have T := src_turn (i := j) sr' rp' ok'
  by_cases hlt : j < s.items.length
  · obtain ⟨hgo, hy⟩ := T.2 _ (List.getElem?_eq_getElem hlt)
    refine .inr ⟨hgo, fun H2 => ∃ acc2 μ2, Iv (j + 1) acc2 μ2 ∧ Step μ H μ2 H2 ∧ Rep X.K μ2 H2 ∧ SrcRep X.K μ2 H2 s J, fun H2 z => ⟨s.items.length - (j + 1), by omega, rfl, hlt, z⟩, fun v H2 yv => ?_⟩
    obtain ⟨rfl, dv⟩ := hy v H2 yv
    have hT := hturn j _ acc μ' (List.getElem?_eq_getElem hlt) iv
    have ev2 : Env X.K μ' H2 ((wipe σ [i]).set i (some v)) ((n.set i none).set i (some s.items[j])) := (evW st').set dv i
    refine ⟨?_, fun sA HA CA clA fpA => ?_⟩
    · show ((σ.set i none).set i (some v)).set i none = σ.set i none
      rw [List.set_set, List.set_set]
    · refine (hT sA HA CA clA fpA).run ev2 rp' Thr.no fun b H3 μ3 h3 s3 r3 => ?_
      cases b with
      | true =>
        rw [if_pos rfl]
        intro sB HB CB clB fpB
        refine h3.1 rfl sB HB CB clB fpB _ H3 _ (ev2.step s3) r3 Thr.no fun y d H4 μ4 h4 s4 r4 d4 => ?_
        obtain ⟨ha4, iv4⟩ := h4
        obtain ⟨vs, e4, rr⟩ := r4 _ _ ha4
        have s5 := Step.mut (H := H4) (o := .lst (vs ++ [y])) (u := .lst (acc ++ [d])) ha4
        exact ⟨vs, e4, by rw [rr.length]; exact hl', acc ++ [d], _, iv4, ((st'.trans s3).trans s4).trans s5, r4.put s5 ⟨_, upd_same, (rr.step s5).append (.one (d4.step s5))⟩, (((sr'.step s3).step s4).step s5)⟩
      | false =>
        rw [if_neg Bool.false_ne_true]
        exact ⟨acc, μ3, h3.2 rfl, st'.trans s3, r3, sr'.step s3⟩
  · have e : j = s.items.length := by omega
    subst e
    refine .inl ⟨T.1 (Nat.le_refl _), ?_⟩
    rcases hend acc μ' iv with hk | ⟨hm, hk⟩
    · obtain ⟨vs, e4, rr⟩ := rp' _ _ ha'
      exact q _ _ _ _ hk (st'.trans (Step.freeze ha')) (rp'.freeze ha') (.lst e4 delM_same (rr.step (Step.freeze ha')))
    · exact q _ _ _ _ hk st' rp' (.obj D)
theorem je_lcG (i : Nat) (cn : X.calm = true) (nd : X.N.Nodup) (ok : BlkOk X.N X.env.scope scope [(x, i)]) (hg : ∀ (s : Shared) (H : Hp) (C : Addr) (cl : List (Str × Addr)) (fp : List Addr), PG (X.blk s H scope (compEnvC scope cl C X.env) fp) tg (gName i))
    (h : JI X W KE tg iter n μ fun s μ1 => LcAll X scope ifs elt i n k s μ1) (hs : ∀ x, foldedSetIterable iter X.env x = pure x := by intro _; rfl) : JE X W KE (.ListComp elt [⟨tg, iter, ifs, 0⟩] scope pos) n μ k :=
  je_of (pe_lc cn nd piC ok hg (fun s H C cl fp => tIfF_ok s H C cl fp) (fun s H C cl fp => tElF_ok s H C cl fp) hs) fun σ H Q ev rp t q => lc_run h ev rp t q
theorem js_setLcG (i ii : Nat) {py spos : Pos} (cn : X.calm = true) (nd : X.N.Nodup) (hy : X.N[ii]? = some y) (hyl : X.env.scope.names.lookup y = some .local) (hsw : swapsWith (.ListComp elt [⟨tg, iter, ifs, 0⟩] scope pos) (some (.Name y py)) spos.line X.env = pure true)
    (ok : BlkOk X.N X.env.scope scope [(x, i)]) (hg : ∀ (s : Shared) (H : Hp) (C : Addr) (cl : List (Str × Addr)) (fp : List Addr), PG (X.blk s H scope (compEnvC scope cl C X.env) fp) tg (gName i))
    (h : JI X W KE tg iter n μ fun s μ1 => LcAll X scope ifs elt i n (fun d μ' => P.nx (n.set ii (some d)) μ') s μ1) (hs : ∀ x, foldedSetIterable iter X.env x = pure x := by intro _; rfl) : JS X W KE (.Assign [.Name y py] (.ListComp elt [⟨tg, iter, ifs, 0⟩] scope pos) spos) n μ P :=
  js_of (ps_setLc cn nd hy hyl hsw piC ok hg (fun s H C cl fp => tIfF_ok s H C cl fp) (fun s H C cl fp => tElF_ok s H C cl fp) hs) fun σ H D ev rp t q => lc_run (Q := fun x H1 => gName ii x σ H1 D.nx) h ev rp t fun v d H' μ' hk st r dd => q.nx _ _ _ _ hk ((ev.step st).set dd ii) st r
/-- more stands -/
def ExtM (μ μ' : M) : Prop := ∀ a o, μ a = some o → μ' a = some o
theorem ExtM.refl (μ : M) : ExtM μ μ := fun _ _ h => h
theorem Src.Ok.ext {s : Src} {μ μ' : M} (h : s.Ok μ) (e : ExtM μ μ') : s.Ok μ' := by
  cases s with
  | seq d xs =>
    cases (show SqD μ d xs from h) with
    | lst xs => exact .lst _
    | fro xs => exact .fro _
    | obj z => exact .obj (e _ _ z)
  | tup xs => trivial
  | rng lo n => trivial
  | rgc lo c n => trivial
  | dky a ks => obtain ⟨kvs, e1, e2⟩ := h; exact ⟨kvs, e _ _ e1, e2⟩
  | str z => trivial
/-- a comprehension that changes nothing -/
theorem lc_pure (f : Dv → Option Dv) {s : Src} {μ1 : M} (hok : s.Ok μ1) (hl : s.items.length < sizeLine)
    (h : ∀ (j : Nat) (x : Dv) (μ' : M), s.items[j]? = some x → ExtM μ1 μ' → LcTurn X scope ifs elt ((n.set i none).set i (some x)) μ' fun o μ3 => o = f x ∧ μ3 = μ') (hk : k (.lst (s.items.filterMap f)) μ1) : LcAll X scope ifs elt i n k s μ1 := fun a ha => by
  have ex : ∀ acc, ExtM μ1 (updM μ1 a (.lst acc)) := fun acc b u e => by rw [updM_ne (ne_ofM e ha)]; exact e
  refine ⟨fun j acc μ' => acc = (s.items.take j).filterMap f ∧ μ' = updM μ1 a (.lst acc), ⟨rfl, rfl⟩, ?_, ?_, ?_⟩
  · rintro j acc μ' ⟨rfl, rfl⟩
    refine ⟨hok.ext (ex _), updM_same, Nat.lt_of_le_of_lt (List.length_filterMap_le _ _) ?_⟩
    rw [List.length_take]; omega
  · rintro j x acc μ' hx ⟨rfl, rfl⟩
    have ht : (s.items.take (j + 1)).filterMap f = (s.items.take j).filterMap f ++ (match f x with | some y => [y] | none => []) := by
      rw [List.take_add_one, List.filterMap_append, hx]
      cases e : f x with
      | none => simp [e]
      | some y => simp [e]
    intro s1 H1 C1 cl1 fp1
    have hT := h j x _ hx (ex ((s.items.take j).filterMap f)) s1 H1 C1 cl1 fp1
    have go : ∀ (b : Bool) (μ2 : M), ((b = true → ∀ (sS : Shared) (H : Hp) (C : Addr) (cl : List (Str × Addr)) (fp : List Addr), JE (X.blk sS H scope (compEnvC scope cl C X.env) fp) W0 KE0 elt ((n.set i none).set i (some x)) μ2 fun y μ3 => some y = f x ∧ μ3 = updM μ1 a (.lst ((s.items.take j).filterMap f))) ∧ (b = false → none = f x ∧ μ2 = updM μ1 a (.lst ((s.items.take j).filterMap f)))) →
        ((b = true → ∀ (sS : Shared) (H : Hp) (C : Addr) (cl : List (Str × Addr)) (fp : List Addr), JE (X.blk sS H scope (compEnvC scope cl C X.env) fp) W0 KE0 elt ((n.set i none).set i (some x)) μ2 fun y μ3 => μ3 a = some (.lst ((s.items.take j).filterMap f)) ∧ ((s.items.take j).filterMap f ++ [y] = (s.items.take (j + 1)).filterMap f ∧ updM μ3 a (.lst ((s.items.take j).filterMap f ++ [y])) = updM μ1 a (.lst ((s.items.take j).filterMap f ++ [y])))) ∧ (b = false → (s.items.take j).filterMap f = (s.items.take (j + 1)).filterMap f ∧ μ2 = updM μ1 a (.lst ((s.items.take j).filterMap f)))) := fun b μ2 z => ⟨fun hb sS H C cl fp => (z.1 hb sS H C cl fp).mono fun y μ3 ⟨z1, z2⟩ => by
          subst z2
          exact ⟨updM_same, by rw [ht, ← z1], updM_updM⟩, fun hb => by
          obtain ⟨z1, z2⟩ := z.2 hb
          exact ⟨by rw [ht, ← z1, List.append_nil], z2⟩⟩
    match ifs, hT with
    | [], hT => exact go _ _ hT
    | [c], hT => exact JT.mono hT fun b μ2 z => go _ _ z
  · rintro acc μ' ⟨rfl, rfl⟩
    rw [List.take_length]
    exact .inl (by rw [delM_updM ha]; exact hk)

/-! ### defs -/
theorem fn_data {Pg : Program} {w : World} {K : Kf} {mg : Str → Option Value} {base : Heap} {x qual : Str} {st : Stmt} {f : Addr} {fd : FuncData} {N ps : List Str} {k : Nat} {S : DSp} (F : Fun K x qual st f fd) (Sc : FnScope N ps (defScope st)) (len : ∀ ds μ kd ke, S ds μ kd ke → ds.length = ps.length)
    (hbody : ∀ (cdv : Value) (A : Around) (outer : List PySem.Env) (s : Shared) (H : Hp) (E : XK),
      let X := cxOf (L2.CX Pg w) Pg w K mg base N qual (defScope st) f cdv A outer s H E
      Cok k X (fun cls d _ H => E cls d H) → PassesOwn (model X.prog X.w) X.A X.env X.xe → ∀ (ds : List Dv) (μ : M) (kd : DK) (ke : XF), S ds μ kd ke →
        JB X (fun cls d _ H => E cls d H) (fun cls fs _ μ' => ke cls fs μ') (defBody st) (ds.map some ++ List.replicate (N.length - ds.length) none) μ { nx := fun _ μ' => kd .non μ', rt := kd }) : FnOk Pg w K mg base (L2.CX Pg w) (k + 1) f fd ps (toSp K S) := by
  refine F.okX Sc (fun vs H Q E h => ?_) (fun cdv A outer s H vs Q E hr h => ?_)
  · obtain ⟨ds, μ, kd, ke, dr, rp, sp, _⟩ := h
    rw [dr.length]
    exact len _ _ _ _ sp
  · obtain ⟨ds, μ, kd, ke, dr, rp, sp, tl, tx⟩ := h
    refine ⟨_, pbC, hbody cdv A outer s H E ⟨hr, rfl, takes_of rfl rfl rfl rfl, Sc.nd⟩ (passes_of rfl) ds μ kd ke sp _ H _ ?_ rp (fun cls fs d σ' e' H' μ' h1 _ s1 r1 x1 => tx cls fs d H' μ' h1 s1 r1 x1) ⟨fun σ' e' H' μ' h1 _ s1 r1 => tl .non .non H' μ' h1 s1 r1 .non, tl, fun _ _ _ _ h => False.elim h, fun _ _ _ _ h => False.elim h⟩⟩
    unfold L2.start
    rw [dr.length]
    exact Env.start _ dr
theorem dfn_of {Pg : Program} {w : World} {K : Kf} {mg : Str → Option Value} {base : Heap} {f : Addr} {fd : FuncData} {ps : List Str} {k : Nat} {S : DSp} (F : FnOk Pg w K mg base (L2.CX Pg w) k f fd ps (toSp K S)) (hb : Binds K fd ps []) : DFn Pg w K mg base k f S [] := ⟨fd, ps, [], [], F, hb, .nil, .nil⟩
/-- the law's own promise -/
def spLaw : DSp := fun ds μ kd _ => ∃ ns : List Int, ds = [.fro (ns.map Dv.int)] ∧ ns.length ≤ 63 ∧ μ = (fun _ => none) ∧ ∀ μ', kd (.bl true) μ'
theorem law_sp {K : Kf} {H : Hp} {a : Addr} {ns : List Int} (hl : ns.length ≤ 63) (hS : SqL K H a (ns.map V.int)) : toSp K spLaw [.ref a] H (fun v _ => v = .bl true) fun _ _ _ => False := by
  refine ⟨[.fro (ns.map Dv.int)], fun _ => none, fun d _ => d = .bl true, fun _ _ _ => False, .one ?_, (fun _ _ h => by cases h), ⟨ns, rfl, hl, rfl, fun _ => rfl⟩, fun v d H' μ' hk _ _ r => ?_, fun _ _ _ _ _ h => False.elim h⟩
  · rcases hS with h | h
    · exact .fro h rfl (.ofInts ns)
    · exact .frk h (.ofInts ns)
  · subst hk
    cases r
    rfl
theorem law_CX {Pg : Program} {w : World} (H : Hp) (s : Shared) (e : Value) (s' : Shared) (h : L2.CX Pg w [] H s (fun _ _ _ => False) e s') : False := by
  obtain ⟨_, _, _, _, _, _, _, _, _, _, _, _, z⟩ := h
  exact z.elim
end
end DL

/-! ## Templates of names; handy forms -/
namespace DL
open PySem PySem.Spec L2
theorem LeE.refl (e : En) : LeE e e := ⟨rfl, fun _ _ h => h⟩
theorem LeE.nil : LeE [] [] := ⟨rfl, fun _ _ h => h⟩
theorem LeE.same {x : Option Dv} {t t' : En} (h : LeE t t') : LeE (x :: t) (x :: t') := ⟨congrArg (· + 1) h.1, fun i d q => by
  cases i with
  | zero => exact q
  | succ i => exact h.2 i d q⟩
theorem LeE.drop {x : Option Dv} {t t' : En} (h : LeE t t') : LeE (x :: t) (none :: t') := ⟨congrArg (· + 1) h.1, fun i d q => by
  cases i with
  | zero => cases q
  | succ i => exact h.2 i d q⟩
theorem LeE.trans {a b c : En} (h : LeE a b) (g : LeE b c) : LeE a c := ⟨h.1.trans g.1, fun i d q => h.2 i d (g.2 i d q)⟩
theorem LeE.set {a b : En} (h : LeE a b) (i : Nat) (x : Option Dv) : LeE (a.set i x) (b.set i x) := ⟨by rw [List.length_set, List.length_set]; exact h.1, fun j d q => by
  by_cases z : i = j
  · subst z
    by_cases hl : i < b.length
    · rw [List.getElem?_set_self hl] at q
      rw [List.getElem?_set_self (by rw [h.1]; exact hl)]
      exact q
    · rw [List.getElem?_eq_none (by rw [List.length_set]; omega)] at q
      cases q
  · rw [List.getElem?_set_ne z] at q ⊢
    exact h.2 j d q⟩
section
variable {X : Cx} {W : WX} {KE : XD} {tg iter elt e a b c o : Expr} {ifs es rest : List Expr} {st : Stmt} {sts A B : List Stmt} {n : En} {μ : M} {k : DK} {P : Ed} {pos pos' p apos : Pos} {x m f y : Str} {K : Kf} {kl j : Nat} {scope : Scope}
/-- what is known behind: at least these names -/
def Mid (Q : En → M → Prop) : En → M → Prop := fun e' μ' => ∃ e2, LeE e' e2 ∧ Q e2 μ'
theorem jb_cut (Q : En → M → Prop) (h : JS X W KE st n μ { P with nx := Mid Q }) (h2 : ∀ e μ', Q e μ' → JB X W KE sts e μ' P) : JB X W KE (st :: sts) n μ P :=
  jb_cons (h.mono (fun _ _ ⟨e2, l, q⟩ => (h2 e2 _ q).le l) (fun _ _ z => z) (fun _ _ z => z) (fun _ _ z => z))
theorem js_forT (i : Nat) (cn : X.calm = true) (ow : PassesOwn (model X.prog X.w) X.A X.env X.xe) (hg : PG X tg (gName i))
    (h : JI X W KE tg iter n μ fun s μ1 => ∃ Iv : Nat → En → M → Prop, Mid (Iv 0) n μ1 ∧ (∀ j n' μ', Iv j n' μ' → s.Ok μ') ∧
      (∀ j x e μ', s.items[j]? = some x → Iv j e μ' → JB X W KE A (e.set i (some x)) μ' { nx := Mid (Iv (j + 1)), ct := Mid (Iv (j + 1)), bk := P.nx, rt := P.rt }) ∧ ∀ e μ', Iv s.items.length e μ' → ∀ n', LeE n' e → P.nx n' μ') (hs : ∀ x, foldedSetIterable iter X.env x = pure x := by intro _; rfl) : JS X W KE (.For tg iter A [] pos) n μ P := by
  refine js_for i cn ow hg (fun σ H R ev rp t q => h σ H R ev rp t fun s J H' μ' hh => q s J H' μ' ?_) hs
  obtain ⟨Iv, h0, hok, ht, hd⟩ := hh
  exact ⟨fun j => Mid (Iv j), h0, fun j n' μ' ⟨e2, l, z⟩ => hok j e2 μ' z, fun j x n' μ' hx ⟨e2, l, z⟩ => (ht j x e2 μ' hx z).le (l.set i _), fun n' μ' ⟨e2, l, z⟩ => hd e2 μ' z n' l⟩
/-- a test whose value is told ahead, nothing changed -/
theorem jt_to (v : Bool) {kb : Bool → M → Prop} (h : JT X W KE e n μ fun b μ' => b = v ∧ μ' = μ) (hk : kb v μ) : JT X W KE e n μ kb := h.mono fun b μ' ⟨h1, h2⟩ => by subst h1; subst h2; exact hk
theorem je_to (v : Dv) (h : JE X W KE e n μ fun d μ' => d = v ∧ μ' = μ) (hk : k v μ) : JE X W KE e n μ k := h.mono fun b μ' ⟨h1, h2⟩ => by subst h1; subst h2; exact hk
theorem getD_mapF {α β : Type} (f : α → β) (xs : List α) (i : Nat) (z : α) : (xs.map f).getD i (f z) = f (xs.getD i z) := by
  rw [List.getD_eq_getElem?_getD, List.getD_eq_getElem?_getD, List.getElem?_map]
  cases xs[i]? <;> rfl
theorem at_getD {α : Type} {xs : List α} {i : Int} (d : α) (h0 : 0 ≤ i) (h1 : i < (xs.length : Int)) : L2.atI xs i = some (xs.getD i.toNat d) := by
  have hl : i.toNat < xs.length := by omega
  have e : L2.atI xs ((i.toNat : Nat) : Int) = some (xs.getD i.toNat d) := L2.atI_nat (by rw [List.getD_eq_getElem?_getD, List.getElem?_eq_getElem hl]; rfl)
  rw [Int.toNat_of_nonneg h0] at e
  exact e
/-- a list of ints at a place -/
theorem d_ixInts (ns : List Int) {x : Dv} {i : Int} (l : SqD μ x (ns.map Dv.int)) (h0 : 0 ≤ i) (h1 : i < (ns.length : Int)) (h : k (.int (ns.getD i.toNat 0)) μ) : DOp K (rIx K) x (.int i) μ k :=
  d_ixL l (d := .int (ns.getD i.toNat 0)) (by
    rw [at_getD (.int 0) h0 (by rw [List.length_map]; exact h1)]
    congr 1
    exact getD_mapF Dv.int ns i.toNat 0) h
/-- a list of anything at a place -/
theorem d_ixMap {α : Type} (f : α → Dv) (xs : List α) (z : α) {x : Dv} {i : Int} (l : SqD μ x (xs.map f)) (h0 : 0 ≤ i) (h1 : i < (xs.length : Int)) (h : k (f (xs.getD i.toNat z)) μ) : DOp K (rIx K) x (.int i) μ k :=
  d_ixL l (d := f (xs.getD i.toNat z)) (by
    rw [at_getD (f z) h0 (by rw [List.length_map]; exact h1)]
    congr 1
    exact getD_mapF f xs i.toNat z) h
end
end DL

/-! ## Data that == compares as Lean does -/
namespace DL
open PySem PySem.Spec L2
structure Enc (α : Type) [DecidableEq α] where
  dv : α → Dv
  py : α → PyData
  n : Nat
  toPy : ∀ x, DL.toPy (dv x) = some (py x)
  lay : ∀ x, (py x).canLay0 = true
  dep : ∀ x, (py x).depth ≤ n
  eqv : ∀ x y, PyData.eqv (py x) (py y) = decide (x = y)
theorem Enc.shaped {α : Type} [DecidableEq α] (E : Enc α) (h : E.n ≤ 64) (x : α) : SeqAt.shaped (E.py x) = true := by
  unfold SeqAt.shaped
  rw [E.lay x, decide_eq_true (Nat.le_trans (E.dep x) h)]
  rfl
def Enc.int : Enc Int := ⟨Dv.int, PyData.int, 0, fun _ => by unfold DL.toPy; rfl, fun _ => by unfold PyData.canLay0; rfl, fun _ => by unfold PyData.depth; exact Nat.le_refl _, fun x y => by
  unfold PyData.eqv
  by_cases e : x = y
  · subst e; simp
  · rw [decide_eq_false e]; simpa using e⟩
theorem depthAll_le {xs : List PyData} {n : Nat} (h : ∀ x ∈ xs, x.depth ≤ n) : PyData.depthAll xs ≤ n := by
  induction xs with
  | nil => unfold PyData.depthAll; omega
  | cons x r ih =>
    unfold PyData.depthAll
    have h1 := h x List.mem_cons_self
    have h2 := ih fun y hy => h y (List.mem_cons_of_mem _ hy)
    omega
theorem layAll_of {xs : List PyData} (h : ∀ x ∈ xs, x.canLay0 = true) : PyData.canLayAll0 xs = true := by
  induction xs with
  | nil => unfold PyData.canLayAll0; rfl
  | cons x r ih =>
    unfold PyData.canLayAll0
    rw [h x List.mem_cons_self, ih fun y hy => h y (List.mem_cons_of_mem _ hy)]
    rfl
def Enc.pair {α β : Type} [DecidableEq α] [DecidableEq β] (E : Enc α) (G : Enc β) : Enc (α × β) where
  dv p := .tup [E.dv p.1, G.dv p.2]
  py p := .tuple [E.py p.1, G.py p.2]
  n := max E.n G.n + 1
  toPy p := by unfold DL.toPy DL.toPys; rw [E.toPy]; unfold DL.toPys; rw [G.toPy]; unfold DL.toPys; rfl
  lay p := by unfold PyData.canLay0; exact layAll_of (by intro x hx; rcases List.mem_cons.mp hx with rfl | hx; exact E.lay _; rcases List.mem_cons.mp hx with rfl | hx; exact G.lay _; cases hx)
  dep p := by
    unfold PyData.depth
    have : PyData.depthAll [E.py p.1, G.py p.2] ≤ max E.n G.n := depthAll_le (by
      intro x hx
      rcases List.mem_cons.mp hx with rfl | hx
      · exact Nat.le_trans (E.dep _) (Nat.le_max_left _ _)
      rcases List.mem_cons.mp hx with rfl | hx
      · exact Nat.le_trans (G.dep _) (Nat.le_max_right _ _)
      cases hx)
    omega
  eqv p q := by
    unfold PyData.eqv PyData.eqvAll PyData.eqvAll PyData.eqvAll
    rw [E.eqv, G.eqv]
    obtain ⟨a, b⟩ := p
    obtain ⟨c, d⟩ := q
    by_cases h1 : a = c
    · by_cases h2 : b = d
      · simp [h1, h2]
      · simp [h1, h2]
    · simp [h1]
theorem toPys_map {α : Type} [DecidableEq α] (E : Enc α) (xs : List α) : DL.toPys (xs.map E.dv) = some (xs.map E.py) := by
  induction xs with
  | nil => rw [List.map_nil]; unfold DL.toPys; rfl
  | cons x r ih => rw [List.map_cons]; unfold DL.toPys; rw [E.toPy, ih]; rfl
theorem eqvAll_map {α : Type} [DecidableEq α] (E : Enc α) : ∀ xs ys : List α, PyData.eqvAll (xs.map E.py) (ys.map E.py) = decide (xs = ys)
  | [], [] => by rw [List.map_nil]; unfold PyData.eqvAll; rfl
  | [], y :: ys => by rw [List.map_nil, List.map_cons]; unfold PyData.eqvAll; rfl
  | x :: xs, [] => by rw [List.map_nil, List.map_cons]; unfold PyData.eqvAll; rfl
  | x :: xs, y :: ys => by
    rw [List.map_cons, List.map_cons]
    unfold PyData.eqvAll
    rw [E.eqv, eqvAll_map E xs ys]
    by_cases h1 : x = y
    · by_cases h2 : xs = ys
      · simp [h1, h2]
      · simp [h1, h2]
    · simp [h1]
def Enc.list {α : Type} [DecidableEq α] (E : Enc α) : Enc (List α) where
  dv xs := .lst (xs.map E.dv)
  py xs := .list (xs.map E.py)
  n := E.n + 1
  toPy xs := by unfold DL.toPy; rw [toPys_map]; rfl
  lay xs := by unfold PyData.canLay0; exact layAll_of (by intro x hx; obtain ⟨a, _, rfl⟩ := List.mem_map.mp hx; exact E.lay a)
  dep xs := by
    unfold PyData.depth
    have : PyData.depthAll (xs.map E.py) ≤ E.n := depthAll_le (by intro x hx; obtain ⟨a, _, rfl⟩ := List.mem_map.mp hx; exact E.dep a)
    omega
  eqv xs ys := by unfold PyData.eqv; exact eqvAll_map E xs ys
/-- the same of a list that nobody may change -/
def Enc.fro {α : Type} [DecidableEq α] (E : Enc α) : Enc (List α) where
  dv xs := .fro (xs.map E.dv)
  py xs := .list (xs.map E.py)
  n := E.n + 1
  toPy xs := by unfold DL.toPy; rw [toPys_map]; rfl
  lay := E.list.lay
  dep := E.list.dep
  eqv := E.list.eqv
section
variable {K : Kf} {μ : M} {k : DK}
theorem d_eqE {α : Type} [DecidableEq α] (E : Enc α) (hn : E.n ≤ 64) {x y : α} {d e : Dv} (hd : d = E.dv x := by rfl) (he : e = E.dv y := by rfl) (h : k (.bl (decide (x = y))) μ) : DOp K (rEqA K) d e μ k := by
  subst hd; subst he
  exact d_eqD (E.toPy x) (E.toPy y) (E.shaped hn x) (E.shaped hn y) (by rw [E.eqv]; exact h)
theorem d_neE {α : Type} [DecidableEq α] (E : Enc α) (hn : E.n ≤ 64) {x y : α} {d e : Dv} (hd : d = E.dv x := by rfl) (he : e = E.dv y := by rfl) (h : k (.bl (!decide (x = y))) μ) : DOp K (rNeA K) d e μ k := by
  subst hd; subst he
  exact d_neD (E.toPy x) (E.toPy y) (E.shaped hn x) (E.shaped hn y) (by rw [E.eqv]; exact h)
/-- against the empty list -/
theorem d_neNil {α : Type} [DecidableEq α] (E : Enc α) (hn : E.n + 1 ≤ 64) {d : Dv} (xs : List α) (l : d = .lst (xs.map E.dv) ∨ d = .fro (xs.map E.dv)) (h : k (.bl (!decide (xs = []))) μ) : DOp K (rNeA K) d (.lst []) μ k := by
  have e0 : DL.toPy (.lst []) = some (.list []) := by unfold DL.toPy DL.toPys; rfl
  have s0 : SeqAt.shaped (.list []) = true := by decide +kernel
  have e1 : DL.toPy d = some (E.list.py xs) := by
    rcases l with rfl | rfl
    · exact E.list.toPy xs
    · exact E.fro.toPy xs
  exact d_neD e1 e0 (E.list.shaped hn xs) s0 (by
    have := E.list.eqv xs []
    have e2 : E.list.py [] = .list [] := rfl
    rw [e2] at this
    rw [this]; exact h)
theorem d_eqNil {α : Type} [DecidableEq α] (E : Enc α) (hn : E.n + 1 ≤ 64) {d : Dv} (xs : List α) (l : d = .lst (xs.map E.dv) ∨ d = .fro (xs.map E.dv)) (h : k (.bl (decide (xs = []))) μ) : DOp K (rEqA K) d (.lst []) μ k := by
  have e0 : DL.toPy (.lst []) = some (.list []) := by unfold DL.toPy DL.toPys; rfl
  have s0 : SeqAt.shaped (.list []) = true := by decide +kernel
  have e1 : DL.toPy d = some (E.list.py xs) := by
    rcases l with rfl | rfl
    · exact E.list.toPy xs
    · exact E.fro.toPy xs
  exact d_eqD e1 e0 (E.list.shaped hn xs) s0 (by
    have := E.list.eqv xs []
    have e2 : E.list.py [] = .list [] := rfl
    rw [e2] at this
    rw [this]; exact h)
end
end DL
namespace DL
open PySem PySem.Spec L2
section
variable {X : Cx} {W : WX} {KE : XD} {e a b c : Expr} {n : En} {μ : M} {kb : Bool → M → Prop} {pos : Pos} {kl : Nat}
def kB (kb : Bool → M → Prop) : DK := fun z μ' => ∃ c, z = .bl c ∧ kb c μ'
theorem jt_cmp {op : CmpOp} {r : R2} (ho : OpR X (compareOp op) r) (hm : behindInMarks op b = false) (h : JE X W KE a n μ fun x μ1 => JE X W KE b n μ1 fun y μ2 => DOp X.K r x y μ2 (kB kb)) : JT X W KE (.Compare a [op] [b] pos) n μ kb :=
  jt_of (pt_cmpR ho peC peC hm) fun σ H Q ev rp t q => by
    refine h σ H _ ev rp t fun u x H1 μ1 h1 s1 r1 d1 => ?_
    refine h1 σ H1 _ (ev.step s1) r1 (t.step s1) fun v y H2 μ2 h2 s2 r2 d2 => ?_
    refine h2 u v H2 _ r2 (d1.step s2) d2 fun w d H3 μ3 h3 s3 r3 d3 => ?_
    obtain ⟨c, rfl, h4⟩ := h3
    cases d3
    exact ⟨c, rfl, q _ _ μ3 h4 ((s1.trans s2).trans s3) r3⟩
theorem jt_lt (h : JE X W KE a n μ fun x μ1 => JE X W KE b n μ1 fun y μ2 => DOp X.K (rI0 fun i j => V.bl (decide (i < j))) x y μ2 (kB kb)) : JT X W KE (.Compare a [.Lt] [b] pos) n μ kb := jt_cmp op_lt (nomark _) h
theorem jt_le (h : JE X W KE a n μ fun x μ1 => JE X W KE b n μ1 fun y μ2 => DOp X.K (rI0 fun i j => V.bl (decide (i ≤ j))) x y μ2 (kB kb)) : JT X W KE (.Compare a [.LtE] [b] pos) n μ kb := jt_cmp op_le (nomark _) h
theorem jt_gt (h : JE X W KE a n μ fun x μ1 => JE X W KE b n μ1 fun y μ2 => DOp X.K (rI0 fun i j => V.bl (decide (j < i))) x y μ2 (kB kb)) : JT X W KE (.Compare a [.Gt] [b] pos) n μ kb := jt_cmp op_gt (nomark _) h
theorem jt_ge (h : JE X W KE a n μ fun x μ1 => JE X W KE b n μ1 fun y μ2 => DOp X.K (rI0 fun i j => V.bl (decide (j ≤ i))) x y μ2 (kB kb)) : JT X W KE (.Compare a [.GtE] [b] pos) n μ kb := jt_cmp op_ge (nomark _) h
theorem jt_eq (c : Cok kl X W) (h : JE X W KE a n μ fun x μ1 => JE X W KE b n μ1 fun y μ2 => DOp X.K (rEqA X.K) x y μ2 (kB kb)) : JT X W KE (.Compare a [.Eq] [b] pos) n μ kb := jt_cmp (OpR.or op_eq (op_eqD c.room.units)) (nomark _) h
theorem jt_ne (c : Cok kl X W) (h : JE X W KE a n μ fun x μ1 => JE X W KE b n μ1 fun y μ2 => DOp X.K (rNeA X.K) x y μ2 (kB kb)) : JT X W KE (.Compare a [.NotEq] [b] pos) n μ kb := jt_cmp (OpR.or op_ne (op_neD c.room.units)) (nomark _) h
theorem jt_is (h : JE X W KE a n μ fun x μ1 => JE X W KE b n μ1 fun y μ2 => DOp X.K (fun x y H Q => y = .non ∧ Q (.bl (decide (x = .non))) H) x y μ2 (kB kb)) (hm : behindInMarks .Is b = false := by exact nomark _) : JT X W KE (.Compare a [.Is] [b] pos) n μ kb := jt_cmp op_isN hm h
theorem jt_isnot (h : JE X W KE a n μ fun x μ1 => JE X W KE b n μ1 fun y μ2 => DOp X.K (fun x y H Q => y = .non ∧ Q (.bl (!decide (x = .non))) H) x y μ2 (kB kb)) (hm : behindInMarks .IsNot b = false := by exact nomark _) : JT X W KE (.Compare a [.IsNot] [b] pos) n μ kb := jt_cmp op_notN hm h
theorem jt_chain {op op' : CmpOp} {r r' : R2} (ho : OpR X (compareOp op) r) (ho' : OpR X (compareOp op') r')
    (h : JE X W KE a n μ fun x μ1 => JE X W KE b n μ1 fun y μ2 => DOp X.K r x y μ2 fun z μ3 => ∃ b, z = .bl b ∧ (b = true → JE X W KE c n μ3 fun w μ4 => DOp X.K r' y w μ4 (kB kb)) ∧ (b = false → kb false μ3))
    (hm : lastMarks [op, op'] [b, c] = false := by with_unfolding_all rfl) : JT X W KE (.Compare a [op, op'] [b, c] pos) n μ kb :=
  jt_of (pt_chain ho ho' peC peC peC hm) fun σ H Q ev rp t q => by
    refine h σ H _ ev rp t fun u x H1 μ1 h1 s1 r1 d1 => ?_
    refine h1 σ H1 _ (ev.step s1) r1 (t.step s1) fun v y H2 μ2 h2 s2 r2 d2 => ?_
    refine h2 u v H2 _ r2 (d1.step s2) d2 fun z d3 H3 μ3 h3 s3 r3 d3' => ?_
    obtain ⟨b, rfl, ht, hf⟩ := h3
    cases d3'
    refine ⟨b, rfl, ?_⟩
    have s13 := (s1.trans s2).trans s3
    cases b with
    | true =>
      rw [if_pos rfl]
      refine ht rfl σ H3 _ (ev.step s13) r3 (t.step s13) fun w y4 H4 μ4 h4 s4 r4 d4 => ?_
      refine h4 v w H4 _ r4 (d2.step (s3.trans s4)) d4 fun w5 d5 H5 μ5 h5 s5 r5 d5' => ?_
      obtain ⟨c, rfl, h6⟩ := h5
      cases d5'
      exact ⟨c, rfl, q _ _ μ5 h6 ((s13.trans s4).trans s5) r5⟩
    | false =>
      rw [if_neg Bool.false_ne_true]
      exact ⟨false, rfl, q _ _ μ3 (hf rfl) s13 r3⟩
theorem d_lenM {α : Type} {f : α → Dv} {k : DK} {K : Kf} {x : Dv} {xs : List α} (l : SqD μ x (xs.map f)) (h : k (.int xs.length) μ) : DCl K (rLenA K) [x] μ k := d_lenL l (by rw [List.length_map]; exact h)
theorem je_frz {k : DK} {e : Expr} (h : JE X W KE e n μ fun d μ' => ∃ a xs, d = .obj a ∧ μ' a = some (.lst xs) ∧ k (.lst xs) (delM μ' a)) : JE X W KE e n μ k := fun σ H Q ev rp t q => by
  refine h σ H Q ev rp t fun v d H' μ' h1 s1 r1 d1 => ?_
  obtain ⟨a, xs, rfl, ha, hk⟩ := h1
  cases d1
  obtain ⟨vs, e1, rr⟩ := r1 _ _ ha
  exact q _ _ _ _ hk (s1.trans (Step.freeze ha)) (r1.freeze ha) (.lst e1 delM_same (rr.step (Step.freeze ha)))
theorem env_put {K : Kf} {μ : M} {H : Hp} {σ : L2.St} {n : En} {i : Nat} {v : V} {d : Dv} (ev : Env K μ H σ n) (hs : σ[i]? = some (some v)) (r : DRep K μ H v d) : Env K μ H σ (n.set i (some d)) := by
  refine ⟨by rw [List.length_set]; exact ev.1, fun j x q => ?_⟩
  by_cases z : i = j
  · subst z
    by_cases hl : i < n.length
    · rw [List.getElem?_set_self hl] at q
      cases q
      exact ⟨v, hs, r⟩
    · rw [List.getElem?_eq_none (by rw [List.length_set]; omega)] at q
      cases q
  · rw [List.getElem?_set_ne z] at q
    exact ev.2 j x q
theorem jb_freeze {sts : List Stmt} {P : Ed} (i : Nat) {a : Addr} {xs : List Dv} (hn : n[i]? = some (some (.obj a))) (ha : μ a = some (.lst xs)) (h : JB X W KE sts (n.set i (some (.lst xs))) (delM μ a) P) : JB X W KE sts n μ P := fun σ H D ev rp t q => by
  obtain ⟨v, hs, dv⟩ := ev.2 i _ hn
  cases dv
  obtain ⟨vs, e1, rr⟩ := rp _ _ ha
  refine h σ H D (env_put (ev.step (Step.freeze ha)) hs (.lst e1 delM_same (rr.step (Step.freeze ha)))) (rp.freeze ha) (t.step (Step.freeze ha)) (q.step (Step.freeze ha))
end
def cutG {α : Type} (xs : List α) (lo hi : Option Int) : List α := (xs.drop (HT.sIx xs.length 0 lo)).take (HT.sIx xs.length xs.length hi - HT.sIx xs.length 0 lo)
theorem cutD_map {α : Type} (f : α → Dv) (xs : List α) (lo hi : Option Int) : cutD (xs.map f) lo hi = (cutG xs lo hi).map f := by
  unfold cutD cutG
  rw [List.length_map, List.map_take, List.map_drop]
theorem cutG_len {α : Type} (xs : List α) (lo hi : Option Int) : (cutG xs lo hi).length ≤ xs.length := by
  unfold cutG
  rw [List.length_take, List.length_drop]
  omega
theorem cutG_mem {α : Type} {xs : List α} {lo hi : Option Int} {x : α} (h : x ∈ cutG xs lo hi) : x ∈ xs := List.mem_of_mem_drop (List.mem_of_mem_take h)
end DL

/-! ## more operators, more calls -/
namespace DL
open PySem PySem.Spec L2
section
variable {X : Cx}
theorem bl_beq (a b : Bool) : (Value.bool a == Value.bool b) = decide (a = b) := by cases a <;> cases b <;> rfl
def rIsB (neg : Bool) : R2 := fun x y H Q => ∃ a b, x = .bl a ∧ y = .bl b ∧ Q (.bl (if neg then !decide (a = b) else decide (a = b))) H
theorem op_isB : OpR X (compareOp .Is) (rIsB false) := by
  intro pins s σ H x y v u Q I rx ry h
  obtain ⟨a, b, rfl, rfl, q⟩ := h
  cases (show v = Value.bool a from rx)
  cases (show u = Value.bool b from ry)
  exact wpAny_is_plain rfl (fin_bl I q (bl_beq a b).symm)
theorem op_isnotB : OpR X (compareOp .IsNot) (rIsB true) := by
  intro pins s σ H x y v u Q I rx ry h
  obtain ⟨a, b, rfl, rfl, q⟩ := h
  cases (show v = Value.bool a from rx)
  cases (show u = Value.bool b from ry)
  exact wpAny_isNot_plain rfl (fin_bl I q (congrArg not (bl_beq a b).symm))
end
section
variable {X : Cx} {W : WX} {KE : XD} {e a b c : Expr} {n : En} {μ : M} {k : DK} {kb : Bool → M → Prop} {pos : Pos} {kl : Nat} {K : Kf}
theorem je_isB (h : JE X W KE a n μ fun x μ1 => JE X W KE b n μ1 fun y μ2 => DOp X.K (rIsB false) x y μ2 k) (hm : behindInMarks .Is b = false := by exact nomark _) : JE X W KE (.Compare a [.Is] [b] pos) n μ k := je_cmp op_isB hm h
theorem jt_isB (h : JE X W KE a n μ fun x μ1 => JE X W KE b n μ1 fun y μ2 => DOp X.K (rIsB false) x y μ2 (kB kb)) (hm : behindInMarks .Is b = false := by exact nomark _) : JT X W KE (.Compare a [.Is] [b] pos) n μ kb := jt_cmp op_isB hm h
theorem je_isnotB (h : JE X W KE a n μ fun x μ1 => JE X W KE b n μ1 fun y μ2 => DOp X.K (rIsB true) x y μ2 k) (hm : behindInMarks .IsNot b = false := by exact nomark _) : JE X W KE (.Compare a [.IsNot] [b] pos) n μ k := je_cmp op_isnotB hm h
theorem jt_isnotB (h : JE X W KE a n μ fun x μ1 => JE X W KE b n μ1 fun y μ2 => DOp X.K (rIsB true) x y μ2 (kB kb)) (hm : behindInMarks .IsNot b = false := by exact nomark _) : JT X W KE (.Compare a [.IsNot] [b] pos) n μ kb := jt_cmp op_isnotB hm h
theorem d_isB {p q : Bool} (h : k (.bl (decide (p = q))) μ) : DOp K (rIsB false) (.bl p) (.bl q) μ k := fun u v H Q r du dv t => by
  cases du; cases dv
  exact ⟨p, q, rfl, rfl, tl_pure t h r (.bl _)⟩
theorem d_isnotB {p q : Bool} (h : k (.bl (!decide (p = q))) μ) : DOp K (rIsB true) (.bl p) (.bl q) μ k := fun u v H Q r du dv t => by
  cases du; cases dv
  exact ⟨p, q, rfl, rfl, tl_pure t h r (.bl _)⟩
/-- x in l, x not in l: all data -/
theorem je_in (c : Cok kl X W) (h : JE X W KE a n μ fun x μ1 => JE X W KE b n μ1 fun y μ2 => DOp X.K (rInD X.K) x y μ2 k) (hm : behindInMarks .In b = false := by rfl) : JE X W KE (.Compare a [.In] [b] pos) n μ k := je_cmp (op_inD (by have := c.room.un; omega)) hm h
theorem jt_in (c : Cok kl X W) (h : JE X W KE a n μ fun x μ1 => JE X W KE b n μ1 fun y μ2 => DOp X.K (rInD X.K) x y μ2 (kB kb)) (hm : behindInMarks .In b = false := by rfl) : JT X W KE (.Compare a [.In] [b] pos) n μ kb := jt_cmp (op_inD (by have := c.room.un; omega)) hm h
theorem d_inD {x y : Dv} {p : PyData} {qs : List PyData} (hx : toPy x = some p) (hy : toPy y = some (.list qs)) (sp : SeqAt.shaped p = true) (sq : SeqAt.shaped (.list qs) = true) (h : k (.bl (qs.any fun z => PyData.eqv z p)) μ) : DOp K (rInD K) x y μ k := fun u v H Q r du dv t =>
  ⟨p, qs, du.dp hx, dv.dp hy, sp, sq, tl_pure t h r (.bl _)⟩
theorem any_eqvE {α : Type} [DecidableEq α] (E : Enc α) (x : α) : ∀ xs : List α, ((xs.map E.py).any fun z => PyData.eqv z (E.py x)) = decide (x ∈ xs)
  | [] => rfl
  | y :: ys => by
    rw [List.map_cons, List.any_cons, E.eqv, any_eqvE E x ys]
    by_cases h : y = x
    · subst h; simp
    · have : ¬ x = y := fun z => h z.symm
      simp [h, this]
theorem d_inE {α : Type} [DecidableEq α] (E : Enc α) (hn : E.n + 1 ≤ 64) {x : α} {xs : List α} {d e : Dv} (hd : d = E.dv x := by rfl) (he : e = .lst (xs.map E.dv) := by rfl) (h : k (.bl (decide (x ∈ xs))) μ) : DOp K (rInD K) d e μ k := by
  subst hd; subst he
  exact d_inD (E.toPy x) (E.list.toPy xs) (E.shaped (by omega) x) (E.list.shaped hn xs) (by rw [any_eqvE]; exact h)
end
/-- None or an encoded thing -/
def Enc.opt : Enc (Option Int) where
  dv o := match o with
    | none => .non
    | some i => .int i
  py o := match o with
    | none => .none
    | some i => .int i
  n := 0
  toPy o := by cases o <;> (unfold DL.toPy; rfl)
  lay o := by cases o <;> (unfold PyData.canLay0; rfl)
  dep o := by cases o <;> (unfold PyData.depth; exact Nat.le_refl _)
  eqv x y := by
    cases x with
    | none => cases y with
      | none => unfold PyData.eqv; rfl
      | some y => unfold PyData.eqv; rfl
    | some x => cases y with
      | none => unfold PyData.eqv; rfl
      | some y =>
        show PyData.eqv (.int x) (.int y) = _
        have := Enc.int.eqv x y
        rw [show Enc.int.py x = PyData.int x from rfl, show Enc.int.py y = PyData.int y from rfl] at this
        rw [this]; simp
end DL
namespace DL
open PySem PySem.Spec L2
section
variable {X : Cx} {scope : Scope} {ifs : List Expr} {elt : Expr} {i : Nat} {n : En} {k : DK}
/-- a comprehension over encoded things, that changes nothing -/
theorem lc_map {α : Type} (dv : α → Dv) (xs : List α) (g : α → Option Dv) {s : Src} {μ1 : M} (hs : s.items = xs.map dv) (hok : s.Ok μ1) (hl : xs.length < sizeLine)
    (h : ∀ (j : Nat) (x : α) (μ' : M), xs[j]? = some x → ExtM μ1 μ' → LcTurn X scope ifs elt ((n.set i none).set i (some (dv x))) μ' fun o μ3 => o = g x ∧ μ3 = μ') (hk : k (.lst (xs.filterMap g)) μ1) : LcAll X scope ifs elt i n k s μ1 := fun a ha => by
  have ex : ∀ acc, ExtM μ1 (updM μ1 a (.lst acc)) := fun acc b u e => by rw [updM_ne (ne_ofM e ha)]; exact e
  refine ⟨fun j acc μ' => acc = (xs.take j).filterMap g ∧ μ' = updM μ1 a (.lst acc), ⟨rfl, rfl⟩, ?_, ?_, ?_⟩
  · rintro j acc μ' ⟨rfl, rfl⟩
    refine ⟨hok.ext (ex _), updM_same, Nat.lt_of_le_of_lt (List.length_filterMap_le _ _) ?_⟩
    rw [List.length_take]; omega
  · rintro j x acc μ' hx ⟨rfl, rfl⟩
    rw [hs, List.getElem?_map] at hx
    cases hxx : xs[j]? with
    | none => rw [hxx] at hx; cases hx
    | some x0 =>
    rw [hxx] at hx
    cases hx
    have ht : (xs.take (j + 1)).filterMap g = (xs.take j).filterMap g ++ (match g x0 with | some y => [y] | none => []) := by
      rw [List.take_add_one, List.filterMap_append, hxx]
      cases e : g x0 with
      | none => simp [e]
      | some y => simp [e]
    intro s1 H1 C1 cl1 fp1
    have hT := h j x0 _ hxx (ex ((xs.take j).filterMap g)) s1 H1 C1 cl1 fp1
    have go : ∀ (b : Bool) (μ2 : M), ((b = true → ∀ (sS : Shared) (H : Hp) (C : Addr) (cl : List (Str × Addr)) (fp : List Addr), JE (X.blk sS H scope (compEnvC scope cl C X.env) fp) W0 KE0 elt ((n.set i none).set i (some (dv x0))) μ2 fun y μ3 => some y = g x0 ∧ μ3 = updM μ1 a (.lst ((xs.take j).filterMap g))) ∧ (b = false → none = g x0 ∧ μ2 = updM μ1 a (.lst ((xs.take j).filterMap g)))) →
        ((b = true → ∀ (sS : Shared) (H : Hp) (C : Addr) (cl : List (Str × Addr)) (fp : List Addr), JE (X.blk sS H scope (compEnvC scope cl C X.env) fp) W0 KE0 elt ((n.set i none).set i (some (dv x0))) μ2 fun y μ3 => μ3 a = some (.lst ((xs.take j).filterMap g)) ∧ ((xs.take j).filterMap g ++ [y] = (xs.take (j + 1)).filterMap g ∧ updM μ3 a (.lst ((xs.take j).filterMap g ++ [y])) = updM μ1 a (.lst ((xs.take j).filterMap g ++ [y])))) ∧ (b = false → (xs.take j).filterMap g = (xs.take (j + 1)).filterMap g ∧ μ2 = updM μ1 a (.lst ((xs.take j).filterMap g)))) := fun b μ2 z => ⟨fun hb sS H C cl fp => (z.1 hb sS H C cl fp).mono fun y μ3 ⟨z1, z2⟩ => by
          subst z2
          exact ⟨updM_same, by rw [ht, ← z1], updM_updM⟩, fun hb => by
          obtain ⟨z1, z2⟩ := z.2 hb
          exact ⟨by rw [ht, ← z1, List.append_nil], z2⟩⟩
    match ifs, hT with
    | [], hT => exact go _ _ hT
    | [c], hT => exact JT.mono hT fun b μ2 z => go _ _ z
  · rintro acc μ' ⟨rfl, rfl⟩
    rw [hs, List.length_map, List.take_length]
    exact .inl (by rw [delM_updM ha]; exact hk)
end
end DL
namespace DL
open PySem PySem.Spec L2
section
variable {X : Cx} {W : WX} {KE : XD} {a b c e : Expr} {rest : List Expr} {n : En} {μ : M} {k : DK} {kb : Bool → M → Prop} {pos : Pos}
theorem JW.mono {kb kb' : Bool → M → Prop} (h : JW X W KE e n μ kb) (m : ∀ b μ', kb b μ' → kb' b μ') : JW X W KE e n μ kb' := fun σ H Q ev rp t q => h σ H Q ev rp t fun b H' μ' hk s r => q b H' μ' (m b μ' hk) s r
/-- tests that change nothing, told by their values -/
theorem jw_andP (v1 v2 : Bool) (h1 : JT X W KE a n μ fun c μ' => c = v1 ∧ μ' = μ) (h2 : v1 = true → JW X W KE (.BoolOp .And (b :: rest) pos) n μ fun c μ' => c = v2 ∧ μ' = μ) (hk : kb (v1 && v2) μ) : JW X W KE (.BoolOp .And (a :: b :: rest) pos) n μ kb :=
  jw_and (h1.mono fun c μ' ⟨e1, e2⟩ => by
    subst e1; subst e2
    refine ⟨fun z => (h2 z).mono fun d μ2 ⟨e3, e4⟩ => ?_, fun z => ?_⟩
    · subst e3; subst e4; rw [z] at hk; exact hk
    · rw [z] at hk; exact hk)
theorem jw_orP (v1 v2 : Bool) (h1 : JT X W KE a n μ fun c μ' => c = v1 ∧ μ' = μ) (h2 : v1 = false → JW X W KE (.BoolOp .Or (b :: rest) pos) n μ fun c μ' => c = v2 ∧ μ' = μ) (hk : kb (v1 || v2) μ) : JW X W KE (.BoolOp .Or (a :: b :: rest) pos) n μ kb :=
  jw_or (h1.mono fun c μ' ⟨e1, e2⟩ => by
    subst e1; subst e2
    refine ⟨fun z => ?_, fun z => (h2 z).mono fun d μ2 ⟨e3, e4⟩ => ?_⟩
    · rw [z] at hk; exact hk
    · subst e3; subst e4; rw [z] at hk; exact hk)
theorem je_andP (v1 v2 : Bool) (h1 : JE X W KE a n μ fun d μ' => d = .bl v1 ∧ μ' = μ) (h2 : v1 = true → JE X W KE (.BoolOp .And (b :: rest) pos) n μ fun d μ' => d = .bl v2 ∧ μ' = μ) (hk : k (.bl (v1 && v2)) μ) : JE X W KE (.BoolOp .And (a :: b :: rest) pos) n μ k :=
  je_and (h1.mono fun d μ' ⟨e1, e2⟩ => by
    subst e1; subst e2
    refine ⟨v1, rfl, fun z => (h2 z).mono fun d μ2 ⟨e3, e4⟩ => ?_, fun z => ?_⟩
    · subst e3; subst e4; rw [z] at hk; exact hk
    · rw [z] at hk; exact hk)
theorem je_orP (v1 v2 : Bool) (h1 : JE X W KE a n μ fun d μ' => d = .bl v1 ∧ μ' = μ) (h2 : v1 = false → JE X W KE (.BoolOp .Or (b :: rest) pos) n μ fun d μ' => d = .bl v2 ∧ μ' = μ) (hk : k (.bl (v1 || v2)) μ) : JE X W KE (.BoolOp .Or (a :: b :: rest) pos) n μ k :=
  je_or (h1.mono fun d μ' ⟨e1, e2⟩ => by
    subst e1; subst e2
    refine ⟨v1, rfl, fun z => ?_, fun z => (h2 z).mono fun d μ2 ⟨e3, e4⟩ => ?_⟩
    · rw [z] at hk; exact hk
    · subst e3; subst e4; rw [z] at hk; exact hk)
theorem je_one' {op : BoolOp} (h : JE X W KE a n μ k) : JE X W KE (.BoolOp op [a] pos) n μ k := je_one h
end
end DL
namespace DL
open PySem PySem.Spec L2
section
variable {X : Cx} {W : WX} {KE : XD} {a b c e : Expr} {rest : List Expr} {n : En} {μ : M} {k : DK} {kb : Bool → M → Prop} {pos : Pos} {K : Kf}
theorem DOp.mono {r : R2} {x y : Dv} {k k' : DK} (h : DOp K r x y μ k) (m : ∀ d μ', k d μ' → k' d μ') : DOp K r x y μ k' := fun u v H Q rp du dv t => h u v H Q rp du dv fun w d H' μ' hk => t w d H' μ' (m d μ' hk)
theorem je_chainP {op op' : CmpOp} {r r' : R2} (ho : OpR X (compareOp op) r) (ho' : OpR X (compareOp op') r') (v1 v2 : Bool) (hm : lastMarks [op, op'] [b, c] = false)
    (h : JE X W KE a n μ fun x μ1 => JE X W KE b n μ1 fun y μ2 => DOp X.K r x y μ2 fun z μ3 => (z = .bl v1 ∧ μ3 = μ) ∧ (v1 = true → JE X W KE c n μ3 fun w μ4 => DOp X.K r' y w μ4 fun z' μ5 => z' = .bl v2 ∧ μ5 = μ))
    (hk : k (.bl (v1 && v2)) μ) : JE X W KE (.Compare a [op, op'] [b, c] pos) n μ k :=
  je_chain ho ho' (h.mono fun x μ1 h1 => h1.mono fun y μ2 h2 => h2.mono fun z μ3 ⟨⟨e1, e2⟩, h3⟩ => by
    subst e1; subst e2
    refine ⟨v1, rfl, fun z => (h3 z).mono fun w μ4 h4 => h4.mono fun z' μ5 ⟨e3, e4⟩ => ?_, fun z => ?_⟩
    · subst e3; subst e4; rw [z] at hk; exact hk
    · rw [z] at hk; exact hk) hm
theorem jt_chainP {op op' : CmpOp} {r r' : R2} (ho : OpR X (compareOp op) r) (ho' : OpR X (compareOp op') r') (v1 v2 : Bool) (hm : lastMarks [op, op'] [b, c] = false)
    (h : JE X W KE a n μ fun x μ1 => JE X W KE b n μ1 fun y μ2 => DOp X.K r x y μ2 fun z μ3 => (z = .bl v1 ∧ μ3 = μ) ∧ (v1 = true → JE X W KE c n μ3 fun w μ4 => DOp X.K r' y w μ4 fun z' μ5 => z' = .bl v2 ∧ μ5 = μ))
    (hk : kb (v1 && v2) μ) : JT X W KE (.Compare a [op, op'] [b, c] pos) n μ kb :=
  jt_chain ho ho' (h.mono fun x μ1 h1 => h1.mono fun y μ2 h2 => h2.mono fun z μ3 ⟨⟨e1, e2⟩, h3⟩ => by
    subst e1; subst e2
    refine ⟨v1, rfl, fun z => (h3 z).mono fun w μ4 h4 => h4.mono fun z' μ5 ⟨e3, e4⟩ => ?_, fun z => ?_⟩
    · subst e3; subst e4; exact ⟨_, rfl, by rw [z] at hk; exact hk⟩
    · rw [z] at hk; exact hk) hm
theorem SqD.ext {μ' : M} {d : Dv} {xs : List Dv} (l : SqD μ d xs) (e : ExtM μ μ') : SqD μ' d xs := by
  cases l with
  | lst => exact .lst _
  | fro => exact .fro _
  | obj h => exact .obj (e _ _ h)
/-- a list, mutable or not, as data -/
theorem SqD.dp {H : Hp} {v : V} {d : Dv} {xs : List Dv} {qs : List PyData} (l : SqD μ d xs) (r : Rep K μ H) (q : DRep K μ H v d) (e : toPys xs = some qs) : Dp K H v (.list qs) := by
  cases l with
  | lst => exact q.dp (by unfold DL.toPy; rw [e]; rfl)
  | fro => exact q.dp (by unfold DL.toPy; rw [e]; rfl)
  | obj h => exact q.thaw r h e
theorem d_eqSS {x y : Dv} {xs ys : List Dv} {ps qs : List PyData} (lx : SqD μ x xs) (ly : SqD μ y ys) (hx : toPys xs = some ps) (hy : toPys ys = some qs) (sp : SeqAt.shaped (.list ps) = true) (sq : SeqAt.shaped (.list qs) = true) (h : k (.bl (PyData.eqv (.list ps) (.list qs))) μ) : DOp K (rEqA K) x y μ k := fun u v H Q r du dv t =>
  .inr ⟨_, _, lx.dp r du hx, ly.dp r dv hy, sp, sq, tl_pure t h r (.bl _)⟩
theorem d_neSS {x y : Dv} {xs ys : List Dv} {ps qs : List PyData} (lx : SqD μ x xs) (ly : SqD μ y ys) (hx : toPys xs = some ps) (hy : toPys ys = some qs) (sp : SeqAt.shaped (.list ps) = true) (sq : SeqAt.shaped (.list qs) = true) (h : k (.bl (!PyData.eqv (.list ps) (.list qs))) μ) : DOp K (rNeA K) x y μ k := fun u v H Q r du dv t =>
  .inr ⟨_, _, lx.dp r du hx, ly.dp r dv hy, sp, sq, tl_pure t h r (.bl _)⟩
/-- two lists of encoded things -/
theorem d_eqSE {α : Type} [DecidableEq α] (E : Enc α) (hn : E.n + 1 ≤ 64) {x y : Dv} {xs ys : List α} (lx : SqD μ x (xs.map E.dv)) (ly : SqD μ y (ys.map E.dv)) (h : k (.bl (decide (xs = ys))) μ) : DOp K (rEqA K) x y μ k :=
  d_eqSS lx ly (toPys_map E xs) (toPys_map E ys) (E.list.shaped hn xs) (E.list.shaped hn ys) (by rw [show PyData.eqv (.list (xs.map E.py)) (.list (ys.map E.py)) = decide (xs = ys) from E.list.eqv xs ys]; exact h)
theorem d_neSE {α : Type} [DecidableEq α] (E : Enc α) (hn : E.n + 1 ≤ 64) {x y : Dv} {xs ys : List α} (lx : SqD μ x (xs.map E.dv)) (ly : SqD μ y (ys.map E.dv)) (h : k (.bl (!decide (xs = ys))) μ) : DOp K (rNeA K) x y μ k :=
  d_neSS lx ly (toPys_map E xs) (toPys_map E ys) (E.list.shaped hn xs) (E.list.shaped hn ys) (by rw [show PyData.eqv (.list (xs.map E.py)) (.list (ys.map E.py)) = decide (xs = ys) from E.list.eqv xs ys]; exact h)
/-- the last one of a list -/
theorem d_ixLast {α : Type} (f : α → Dv) {x : Dv} {xs : List α} {p : α} (l : SqD μ x (xs.map f)) (hp : xs.getLast? = some p) (h : k (f p) μ) : DOp K (rIx K) x (.int (-1)) μ k :=
  d_ixL l (d := f p) (by
    have hne : xs ≠ [] := by intro z; subst z; cases hp
    have hl : 0 < xs.length := List.length_pos_iff.mpr hne
    rw [List.getLast?_eq_getElem?] at hp
    unfold L2.atI L2.ixN
    rw [List.length_map, if_neg (by omega)]
    rw [show (if -(xs.length : Int) ≤ -1 then some (-1 + (xs.length : Int)).toNat else none) = some (xs.length - 1) by rw [if_pos (by omega)]; congr 1; omega]
    show (xs.map f)[xs.length - 1]? = _
    rw [List.getElem?_map, hp]
    rfl) h
end
end DL
namespace DL
open PySem PySem.Spec L2
theorem d_powE {K : Kf} {μ : M} {k : DK} {i j v : Int} (hc : CPow i j) (e : i ^ j.toNat = v) (h : k (.int v) μ) : DOp K (rI CPow fun i j => V.int (i ^ j.toNat)) (.int i) (.int j) μ k := d_powI hc (by rw [e]; exact h)
end DL

/-! ## Exceptions as data -/
namespace DL
open PySem PySem.Spec L2
section
variable {X : Cx} {pins : List (Addr × Obj)} {σ : L2.St} {H : Hp} {s : Shared}
/-- an object of ours that was not tracked is tracked from now on -/
theorem inv_adopt {z : Addr} {u : HO} (I : Inv X pins σ H s) (n0 : X.s_0.heap.get? z = none) (nz : H z = none) (nL : X.env.locals ≠ z) (nC : ∀ x c, X.env.cells.lookup x = some c → c ≠ z) (nP : ∀ p ∈ X.pn ++ pins, p.1 ≠ z)
    (new : ObjOk X.prog X.w (upd H z u) s.heap z u) : Inv X pins σ (upd H z u) s where
  ok := I.ok
  os := I.os
  bare := I.bare
  base := ⟨I.base.keep, I.base.slot, fun b o e n hb => by
      have hz : b ≠ z := fun q => by rw [q, n0] at e; cases e
      rw [upd_ne hz]
      exact I.base.free b o e n hb, I.base.there, fun b xs e => by
      have q := I.base.tups b xs e
      rw [upd_ne (ne_of_none q nz)]
      exact q, fun b o w e => by
      have q := I.base.frzs b o w e
      rw [upd_ne (ne_of_none q nz)]
      exact q, fun b ps e => by
      obtain ⟨m, q⟩ := I.base.tbls b ps e
      exact ⟨m, by rw [upd_ne (ne_of_none q nz)]; exact q⟩⟩
  loc := I.loc
  cell := I.cell
  free := by rw [upd_ne nL]; exact I.free
  freeC := fun x c e => by rw [upd_ne (nC x c e)]; exact I.freeC x c e
  pin := fun p hp => by
    obtain ⟨e, n, q⟩ := I.pin p hp
    exact ⟨e, by rw [upd_ne (nP p hp)]; exact n, q⟩
  hok := HOk.laidN I.hok (fun _ _ e => e) nz new
  len := I.len
/-- the context of an except suite whose exception is tracked -/
abbrev suiteK (X : Cx) (z : Addr) (pn : List (Addr × Obj)) : Cx := { X with A := X.A.mark (some (.ref z)), calm := false, pn := pn, xe := fun _ _ => False }
theorem inv_suiteK {z : Addr} (I : Inv X pins σ H s) : Inv (suiteK X z (X.pn ++ pins)) [] σ H s :=
  ⟨Cx.Ok.suite I.ok z _, I.os, I.bare, I.base, I.loc, I.cell, I.free, I.freeC, fun p hp => I.pin p (by rw [List.append_nil] at hp; exact hp), I.hok, I.len⟩
theorem inv_offK {z : Addr} {pq : List (Addr × Obj)} (I : Inv (suiteK X z (X.pn ++ pins)) pq σ H s) (ok : X.Ok) : Inv X pins σ H s :=
  ⟨ok, I.os, I.bare, I.base, I.loc, I.cell, I.free, I.freeC, fun p hp => I.pin p (List.mem_append_left _ hp), I.hok, I.len⟩
theorem exD_ok {P : Program} {w : World} {h : Heap} {z : Addr} {cl : Value} {d : Option Addr} {oe : Obj} {vs : Array Value} (e : h.get? z = some oe) (q : Zc cl d oe) (f : oe.data = .fields vs) : ObjOk P w (upd H z (ExD cl d z)) h z (ExD cl d z) :=
  ⟨⟨oe, vs, e, q, f⟩, ⟨oe, e⟩, fun _ _ ⟨o, v, q, r⟩ k => ⟨o, v, k o q, r⟩⟩
end
/-- what the clause 'except x as n' wishes, the exception kept as a tracked thing -/
def wKeep (K : Kf) (cv : Value) (i : Nat) (ts : TS) (Wout : WX) (D : Ends) : WX := fun cl d σ H =>
  ∃ b, PySem.W.exmOne K cl cv = some b ∧
    (b = true → ∀ z, H z = none → ts ⟨fun σ1 H1 => D.nx (σ1.set i none) H1, D.rt, fun σ1 H1 => D.bk (σ1.set i none) H1, fun σ1 H1 => D.ct (σ1.set i none) H1⟩ (σ.set i (some (.ref z))) (upd H z (ExD cl d z))) ∧
    (b = false → Wout cl d σ H)
section
variable {X : Cx} {x n : Str} {cv : Value} {i : Nat} {body suite : List Stmt} {b₀ : Stmt} {np pos pos' : Pos} {tb : WX → TS} {ts : TS} {Wout : WX}
/-- try: body; except x as n: suite -/
theorem ps_try_keep (hs : X.stack = X.env :: X.outer) (hf : X.env.frame = some X.env.locals) (hx : X.ex = []) (hN : X.N.Nodup) (hi : X.N[i]? = some n)
    (hln : X.env.kindOf n = some .local) (hc : Names X x cv) (tk : Takes X Wout)
    (hb : ∀ (W1 : WX) (pq : List (Addr × Obj)) (xe : Value → Shared → Prop), Takes (X.tr pq xe) W1 →
      PassesOwn (model X.prog X.w) X.A X.env xe → PSs (X.tr pq xe) body (tb W1))
    (hsu : ∀ (z : Addr) (pq : List (Addr × Obj)), PSs (suiteK X z pq) (b₀ :: suite) ts) :
    PS X (.Try body [.ExceptHandler (some (.Name x np)) (some n) (b₀ :: suite) pos'] [] [] pos)
      (fun D σ H => tb (wKeep X.K cv i ts Wout D) D σ H) := by
  refine ⟨fun pins s σ H D I h => wpAny_Try_except ?_⟩
  have okX := I.ok
  have hframes : X.A.frames = some (X.env :: X.outer) := by rw [okX.frames, hs]
  have locn : Loc X.env.scope n := .inl hln
  have body1 := hb (wKeep X.K cv i ts Wout D) (X.pn ++ pins)
    (fun ev q1 => wpAny (model X.prog X.w) X.A (noteFrame ev X.env) (fun _ q2 =>
      wpAny (model X.prog X.w) X.A (setFlight ev none) (fun _ q3 =>
        wpAny (model X.prog X.w) X.A (handleBy ev X.env [.ExceptHandler (some (.Name x np)) (some n) (b₀ :: suite) pos'])
          (SP X pins D) X.xe q3) X.xe q2) X.xe q1) ?land PassesOwn.looking
  case land =>
    intro ev q0 air
    obtain ⟨z, G, sB, pq, σ1, H1, cl, d, rfl, Jt, below, ups, sky, nz, hos, gens, b, hexm, yes, no⟩ := air
    have Jx : Inv X pins σ1 H1 sB := Jt.ofTry okX
    have skyX : Sky G (X.env :: X.outer) z (Zc cl d) X.env.locals q0.heap := by rw [← hs]; exact sky
    show wpAny (model X.prog X.w) X.A (noteFrame (.ref z) X.env) _ _ _
    refine Sky.land Zc.steady hframes hf skyX fun hp1 fly1 upA => ?_
    have I1 : Inv X pins σ1 H1 { q0 with heap := hp1 } := Jx.landed below fly1.1 (ups.trans upA) hos gens
    obtain ⟨o1, w1, ge1, zc1, dat1⟩ := fly1.there
    have off : z ∉ frs (X.env :: X.outer) := fun hm => by
      obtain ⟨_, o', e', hnf⟩ := fly1.2.2.1.mem hm
      rw [ge1] at e'
      cases e'
      exact hnf _ dat1
    have offL : z ≠ X.env.locals := fun q => off (List.mem_filterMap.mpr ⟨X.env, List.mem_cons_self, by rw [hf, q]⟩)
    have offF : z ∉ X.fs := fun hm => by
      obtain ⟨e, he, q⟩ := List.mem_filterMap.mp hm
      exact off (List.mem_filterMap.mpr ⟨e, List.mem_cons_of_mem _ he, q⟩)
    have suite1 := I1.suite ge1 dat1 nz offL offF
    have newB : sB.heap.get? z = none := by
      cases q : sB.heap.get? z with
      | none => rfl
      | some o =>
        have := below z o q (by rw [hs]; exact off)
        rw [fly1.2.1] at this
        cases this
    have new0 : X.s_0.heap.get? z = none := by
      cases q : X.s_0.heap.get? z with
      | none => rfl
      | some o =>
        obtain ⟨o', e⟩ := Jx.base.there z o q (by rw [hx]; exact fun y => nomatch y)
        rw [newB] at e
        cases e
    refine wpAny_handleBy_cons (codeAny_handlers_test ?_) (by intro q; cases q)
    have looks1 : PySem.W.Looks (model X.prog X.w) hp1 (typeOf (.ref z)) cl := fun A Q E r k q => wpAny_typeOf_ref (k _ _ ge1) (by rw [zc1.1]; exact q)
    have hit := PySem.W.exm_one (M := model X.prog X.w) (I1.kIn) looks1 hexm
    have named : ∀ {Q : Value → Shared → Prop} {E : Value → Shared → Prop}, Q cv { q0 with heap := hp1 } →
        wpAny (model X.prog X.w) (X.A.mark (some (.ref z))) (eval (.Name x np) X.env) Q E { q0 with heap := hp1 } := fun {Q E} q => by
      obtain ⟨hg, hdbg, hm | ⟨hm, hv, hnn⟩⟩ := hc
      · exact ld_glob (X := X.suite z ((z, o1) :: (X.pn ++ pins))) suite1 hg hm q hdbg
      · exact ld_blt (X := X.suite z ((z, o1) :: (X.pn ++ pins))) suite1 hg hm hv q hnn hdbg
    refine named (hit.here ?_)
    cases b with
    | true =>
      refine codeAny_handlers_suite_as (HandSPX.lands_againZ fly1 fun hp2 fly2 upB => ?_)
      have I2 : Inv X pins σ1 H1 { q0 with heap := hp2 } := Jx.landed below fly2.1 ((ups.trans upA).trans upB) hos gens
      obtain ⟨o2, w2, ge2, zc2, dat2⟩ := fly2.there
      have I3 : Inv X pins σ1 (upd H1 z (ExD cl d z)) { q0 with heap := hp2 } := inv_adopt I2 new0 nz (Ne.symm offL)
        (fun y c e q => by
          obtain ⟨v, oc, hoc, hd⟩ := I2.cell y c e
          rw [q, ge2] at hoc
          cases hoc
          rw [dat2] at hd
          cases hd)
        (fun p hp q => by
          have := (Jx.pin p hp).1
          rw [q, newB] at this
          cases this)
        (exD_ok ge2 zc2 dat2)
      refine store_ok (X := suiteK X z (X.pn ++ pins)) (v := .ref z) (inv_suiteK I3) hN hi locn rfl (fun r5 S5 => ?_) (.inr hln)
      refine wpAny_mono ((hsu z (X.pn ++ pins)).run [] r5 _ _ _ S5 (yes rfl z nz)) (fun f r6 hsp => ?_) (fun _ _ y => False.elim y)
      have gone : ∀ {σ6 : L2.St} {H6 : Hp} {Q : Shared → Prop}, Inv (suiteK X z (X.pn ++ pins)) [] σ6 H6 r6 → (∀ r7, Inv X pins (σ6.set i none) H6 r7 → Q r7) →
          wpAny (model X.prog X.w) X.A (do bindName X.env n .none; unbindBehindTheSuite X.env n pos') (fun _ r7 => Q r7) X.xe r6 :=
        fun {σ6 H6 Q} S6 hq => gone_ok (inv_offK S6 okX) hN hi hln hq
      cases f with
      | next =>
        obtain ⟨σ6, H6, S6, w6⟩ := hsp
        exact gone S6 fun r7 J7 => ⟨_, _, J7, w6⟩
      | brk =>
        obtain ⟨σ6, H6, S6, w6⟩ := hsp
        exact gone S6 fun r7 J7 => ⟨_, _, J7, w6⟩
      | cont =>
        obtain ⟨σ6, H6, S6, w6⟩ := hsp
        exact gone S6 fun r7 J7 => ⟨_, _, J7, w6⟩
      | ret u =>
        obtain ⟨v6, σ6, H6, S6, r6', w6⟩ := hsp
        exact gone S6 fun r7 J7 => ⟨_, _, _, J7, r6', w6⟩
    | false =>
      show wpAny _ X.A (handleBy (.ref z) X.env []) _ _ _
      refine wpAny_handleBy_nil ?_
      obtain ⟨k1, k2, k3, oe, vs, T, oT, us, he, hz, hd, h1, hr⟩ := id fly1
      unfold PySem.passOn
      refine wpAny_bind (wpAny_field he hd h1 ?_)
      rw [if_neg (show ¬ ((Value.ref T == Value.none) = true) from by simp)]
      have fin : wpAny (model X.prog X.w) X.A (setFlight (.ref z) X.env.frame)
          (fun _ r4 => wpAny (model X.prog X.w) X.A (throw (.ref z) : Sem Flow) (SP X pins D) X.xe r4) X.xe { q0 with heap := hp1 } := by
        rw [hf]
        refine HandSPX.setFlight_upZ fly1 fun hp4 held upC => wpAny_throw (tk _ _ ?_)
        exact ⟨z, G, sB, pins, σ1, H1, cl, d, rfl, Jx, below, (ups.trans upA).trans upC, .inr (.inr (by rw [hs]; exact held)), nz, hos, gens, no rfl⟩
      first
        | exact wpAny_bind (wpAny_pure (wpAny_bind fin))
        | exact wpAny_bind fin
  refine wpAny_mono (body1.run [] s σ H D (I.toTry _) h) (fun f r1 hsp => ?_) (fun ev r1 he => he)
  cases f with
  | next =>
    obtain ⟨σ1, H1, J1, q⟩ := hsp
    exact wpAny_execs_nil ⟨σ1, H1, J1.ofTry okX, q⟩
  | brk =>
    obtain ⟨σ1, H1, J1, q⟩ := hsp
    exact ⟨σ1, H1, J1.ofTry okX, q⟩
  | cont =>
    obtain ⟨σ1, H1, J1, q⟩ := hsp
    exact ⟨σ1, H1, J1.ofTry okX, q⟩
  | ret u =>
    obtain ⟨v, σ1, H1, J1, r, q⟩ := hsp
    exact ⟨v, σ1, H1, J1.ofTry okX, r, q⟩
end
end DL

namespace DL
open PySem PySem.Spec L2
section
variable {X : Cx} {W : WX} {KE : XD} {e : Expr} {sts body suite : List Stmt} {n : En} {μ : M} {k : DK} {P : Ed} {pos pos' p p2 np : Pos} {x m y : Str} {K : Kf} {kl j i : Nat} {b₀ : Stmt}
/-- an own exception class, below ValueError, without its own __init__ -/
structure Xc (K : Kf) (mg : Str → Option Value) (x : Str) (C : Addr) : Prop where
  q : PySem.W.excIn K C [.type "ValueError", .type "Exception", .type "BaseException", .type "object"] "ValueError.__new__" = true
  g : mg x = some (.ref C)
  k : PySem.W.keepIn K (.ref C) = true
  r1 : PySem.W.subIn K (.ref C) (.type "BaseException") = some true
  r2 : PySem.W.typeIn K (.ref C) = some (.type "type")
theorem js_raise {C : Addr} (c : Cok kl X W) (F : Xc X.K X.mg x C) (h : KE (.ref C) [] n μ) (hg : Gl X x := by rfl) (hdb : (x == ("__debug__" : Str)) = false := by decide) : JS X W KE (.Raise (some (.Call (.Name x p) [.Constant (.str m) j p2] [] pos)) none pos') n μ P :=
  js_of (ps_raise c.calm c.tk (pmk_own PySem.F.excBase_ValueError F.q F.g F.k (raises_own F.r1 F.r2) hg hdb)) fun σ H D ev rp t q =>
    t (.ref C) [] none σ n H μ h ev (Step.refl _ _) rp rfl
theorem js_setN (i : Nat) (nd : X.N.Nodup) (hi : X.N[i]? = some x) (h : JE X W KE e n μ fun d μ' => P.nx (n.set i (some d)) μ') (hx : Loc X.env.scope x := by first | exact Or.inl rfl | exact Or.inr rfl)
    (hs : swapsWith e (some (.Name x pos')) pos.line X.env = pure false := by rfl) (hf : X.fn x = true ∨ X.env.scope.names.lookup x = some .local := by first | exact .inl rfl | exact .inr rfl) : JS X W KE (.Assign [.Name x pos'] e pos) n μ P :=
  js_of (ps_set nd hi hx peC hs hf) fun σ H D ev rp t q => by
    refine h σ H _ ev rp t fun v d H1 μ1 h1 s1 r1 d1 => ?_
    exact q.nx _ _ _ _ h1 ((ev.step s1).set d1 i) s1 r1
theorem exc_rep {H : Hp} {C z : Addr} {d : Option Addr} {fs : List (Str × Dv)} (rp : Rep K μ H) (nz : H z = none) (xr : XRep K μ H d fs) : DRep K μ (upd H z (ExD (.ref C) d z)) (.ref z) (.exc C fs) := by
  cases d with
  | none =>
    have e : fs = [] := xr
    subst e
    exact .exc0 upd_same (rp.free nz)
  | some dd =>
    obtain ⟨vs, e, nd, r⟩ := xr
    exact .exc1 upd_same (rp.free nz) (by rw [upd_ne (ne_of_none e nz)]; exact e) nd (r.step (Step.new nz))
/-- try: body, except x as y: suite; the caught exception is data -/
theorem js_try (i : Nat) {cv : Value} (c : Cok kl X W) (hi : X.N[i]? = some y) (hc : Names X x cv)
    (h : ∀ (pq : List (Addr × Obj)) (xe : Value → Shared → Prop) (W1 : WX), Cok kl (X.tr pq xe) W1 → PassesOwn (model X.prog X.w) X.A X.env xe →
      JB (X.tr pq xe) W1 (fun cls fs n1 μ1 => ∃ b, PySem.W.exmOne X.K cls cv = some b ∧ (b = true → ∃ C, cls = .ref C ∧ ∀ (z : Addr) (pq : List (Addr × Obj)),
        JB (suiteK X z pq) W0 KE0 (b₀ :: suite) (n1.set i (some (.exc C fs))) μ1 { nx := fun n2 μ2 => P.nx (n2.set i none) μ2, rt := P.rt, bk := fun n2 μ2 => P.bk (n2.set i none) μ2, ct := fun n2 μ2 => P.ct (n2.set i none) μ2 }) ∧ (b = false → KE cls fs n1 μ1)) body n μ P)
    (hs : X.stack = X.env :: X.outer := by rfl) (hf : X.env.frame = some X.env.locals := by rfl) (hx : X.ex = [] := by rfl) (hln : X.env.kindOf y = some .local := by rfl) :
    JS X W KE (.Try body [.ExceptHandler (some (.Name x np)) (some y) (b₀ :: suite) pos'] [] [] pos) n μ P :=
  js_of (ps_try_keep (tb := fun W1 D σ H => ∀ (pq : List (Addr × Obj)) (xe : Value → Shared → Prop), Takes (X.tr pq xe) W1 → PassesOwn (model X.prog X.w) X.A X.env xe → cB (X.tr pq xe) body D σ H)
      (ts := fun D σ H => ∀ (z : Addr) (pq : List (Addr × Obj)), cB (suiteK X z pq) (b₀ :: suite) D σ H) hs hf hx c.nd hi hln hc c.tk
      (fun W1 pq xe tk po => ⟨fun pins s σ H D I w => w pq xe tk po pins s I⟩) (fun z pq => ⟨fun pins s σ H D I w => w z pq pins s I⟩)) fun σ H D ev rp t q => by
    intro pq xe tk po
    refine h pq xe _ ⟨c.room, c.calm, tk, c.nd⟩ po σ H D ev rp (fun cls fs d σ1 e1 H1 μ1 hke ev1 st1 rp1 xr => ?_) q
    obtain ⟨b, hexm, yes, no⟩ := hke
    refine ⟨b, hexm, fun hb z nz => ?_, fun hb => t cls fs d σ1 e1 H1 μ1 (no hb) ev1 st1 rp1 xr⟩
    obtain ⟨C, rfl, hz⟩ := yes hb
    intro z2 pq2
    have sN : Step μ1 H1 μ1 (upd H1 z (ExD (.ref C) d z)) := Step.new nz
    have sA := st1.trans sN
    refine hz z2 pq2 _ _ _ ((ev1.step sN).set (exc_rep rp1 nz xr) i) (rp1.new nz) Thr.no ⟨fun σ2 e2 H2 μ2 a b2 c2 d2 => ?_, q.rt.step sA, fun σ2 e2 H2 μ2 a b2 c2 d2 => ?_, fun σ2 e2 H2 μ2 a b2 c2 d2 => ?_⟩
    · exact q.nx _ _ _ _ a (b2.wipe [i]) (sA.trans c2) d2
    · exact q.bk _ _ _ _ a (b2.wipe [i]) (sA.trans c2) d2
    · exact q.ct _ _ _ _ a (b2.wipe [i]) (sA.trans c2) d2
/-! isinstance of an exception -/
def rIsX (K : Kf) : List V → Hp → VK → Prop := fun xs H Q => ∃ (z D : Addr) (c : V) (cv : Value) (b : Bool), xs = [.ref z, c] ∧ (H z = some (ExD (.ref D) none z) ∨ ∃ dd vs, H z = some (ExD (.ref D) (some dd) z) ∧ H dd = some (.xd vs)) ∧ ClsV c cv ∧ ExcC K D ∧ PySem.W.kitOne K (.ref D) cv = some b ∧ Q (.bl b) H
theorem call_isX : CallR X (.builtin "isinstance") (rIsX X.K) := by
  intro pins s σ H xs us Q I r h
  obtain ⟨z, D, c, cv, b, rfl, hz, hc, E, e, q⟩ := h
  cases r with
  | cons rx rr =>
    cases rr with
    | cons rt rr =>
      cases rr
      cases rx
      have ec := hc.eq rt
      subst ec
      rcases hz with hz | ⟨dd, vs, hz, hd⟩
      · obtain ⟨⟨oe, ws, ge, zc, dat⟩, _, _⟩ := I.hok z _ hz
        have J : PySem.W.InstAt s.heap z oe D none := by
          obtain ⟨oc, od, oda, osl⟩ := oe
          obtain ⟨h1, h2⟩ := zc
          dsimp only at h1 h2 dat
          subst h1 h2 dat
          exact ⟨ge, rfl, rfl, trivial⟩
        exact PySem.W.kia_one (PySem.W.handS_kitx_exc E.hg E.hk E.hs E.hd E.ha E.hn E.ht E.hm) I.kIn J e (fun z => nomatch z) fun tk => ⟨.bl b, H, I.kept (t' := tk) fun _ _ z => z, rfl, q⟩
      · obtain ⟨⟨oe, ws, ge, zc, dat⟩, _, _⟩ := I.hok z _ hz
        obtain ⟨mA, ⟨o1, es, ep, hns, _⟩, _⟩ := (show ∃ mA, s.heap.Ns1 dd mA ∧ _ from I.hok dd _ hd)
        have J : PySem.W.InstAt s.heap z oe D (some o1) := by
          obtain ⟨oc, od, oda, osl⟩ := oe
          obtain ⟨h1, h2⟩ := zc
          dsimp only at h1 h2 dat
          subst h1 h2 dat
          exact ⟨ge, rfl, rfl, hns⟩
        obtain ⟨cd, hcd, _⟩ := PySem.W.any_some E.hd
        exact PySem.W.kia_one (PySem.W.kitx_exc (by rw [hcd]; rfl) E.hg E.hk E.hs E.ha E.hn E.ht E.hm) I.kIn J e (fun z => nomatch z) fun tk => ⟨.bl b, H, I.kept (t' := tk) fun _ _ z => z, rfl, q⟩
theorem d_isX {C : Addr} {fs : List (Str × Dv)} {cd : Dv} {u : Value} {b : Bool} (E : ExcC K C) (hc : ClD cd u) (hb : PySem.W.kitOne K (.ref C) u = some b) (h : k (.bl b) μ) : DCl K (rIsX K) [.exc C fs, cd] μ k := fun us H Q r d q => by
  cases d with
  | cons d0 d1 =>
    cases d1 with
    | cons d1 d2 =>
      cases d2
      cases d0 with
      | exc0 hz nz => exact ⟨_, C, _, u, b, rfl, .inl hz, hc.rep d1, E, hb, tl_pure q h r (.bl _)⟩
      | exc1 hz nz hd nd rr => exact ⟨_, C, _, u, b, rfl, .inr ⟨_, _, hz, hd⟩, hc.rep d1, E, hb, tl_pure q h r (.bl _)⟩
end
end DL

/-! ## Dicts -/
namespace DL
open PySem PySem.Spec L2
def valD (kvs : List (Key × Dv)) (k : Key) : Option Dv := (kvs.find? fun kv => decide (kv.1 = k)).map (·.2)
def putKD (kvs : List (Key × Dv)) (k : Key) (v : Dv) : List (Key × Dv) :=
  if (kvs.any fun kv => decide (kv.1 = k)) = true then kvs.map (fun kv => if kv.1 = k then (kv.1, v) else kv) else kvs ++ [(k, v)]
section
variable {K : Kf} {μ : M} {H : Hp}
theorem DKvs.valN {k : Key} : ∀ {vs : List (Key × V)} {ds : List (Key × Dv)}, DKvs K μ H vs ds → valD ds k = none → valV vs k = none
  | _, _, .nil, _ => rfl
  | (f, v) :: vs, (_, d) :: ds, .cons h t, e => by
    unfold valD at e
    unfold valV
    rw [List.find?_cons] at e ⊢
    by_cases z : f = k
    · simp [z] at e
    · simp only [decide_eq_false z] at e ⊢
      exact t.valN e
theorem DKvs.valS {k : Key} {d : Dv} : ∀ {vs : List (Key × V)} {ds : List (Key × Dv)}, DKvs K μ H vs ds → valD ds k = some d → ∃ v, valV vs k = some v ∧ DRep K μ H v d
  | _, _, .nil, e => by cases e
  | (f, v) :: vs, (_, d') :: ds, .cons h t, e => by
    unfold valD at e
    unfold valV
    rw [List.find?_cons] at e ⊢
    by_cases z : f = k
    · simp only [decide_eq_true z, Option.map_some] at e ⊢
      cases e
      exact ⟨v, rfl, h⟩
    · simp only [decide_eq_false z] at e ⊢
      exact t.valS e
theorem DKvs.any {k : Key} : ∀ {vs : List (Key × V)} {ds : List (Key × Dv)}, DKvs K μ H vs ds → (vs.any fun kv => decide (kv.1 = k)) = ds.any fun kv => decide (kv.1 = k)
  | _, _, .nil => rfl
  | _, _, .cons h t => by rw [List.any_cons, List.any_cons, t.any]
theorem DKvs.repl {k : Key} {v : V} {d : Dv} (r : DRep K μ H v d) : ∀ {vs : List (Key × V)} {ds : List (Key × Dv)}, DKvs K μ H vs ds → DKvs K μ H (vs.map fun kv => if kv.1 = k then (kv.1, v) else kv) (ds.map fun kv => if kv.1 = k then (kv.1, d) else kv)
  | _, _, .nil => .nil
  | (f, x) :: vs, (_, y) :: ds, .cons h t => by
    rw [List.map_cons, List.map_cons]
    by_cases z : f = k
    · rw [if_pos z, if_pos z]; exact .cons r (t.repl r)
    · rw [if_neg z, if_neg z]; exact .cons h (t.repl r)
theorem DKvs.snoc {k : Key} {v : V} {d : Dv} (r : DRep K μ H v d) : ∀ {vs : List (Key × V)} {ds : List (Key × Dv)}, DKvs K μ H vs ds → DKvs K μ H (vs ++ [(k, v)]) (ds ++ [(k, d)])
  | _, _, .nil => .cons r .nil
  | _, _, .cons h t => .cons h (t.snoc r)
theorem DKvs.put {k : Key} {v : V} {d : Dv} {vs : List (Key × V)} {ds : List (Key × Dv)} (t : DKvs K μ H vs ds) (r : DRep K μ H v d) : DKvs K μ H (putK vs k v) (putKD ds k d) := by
  unfold putK putKD
  rw [t.any]
  split
  · exact t.repl r
  · exact t.snoc r
theorem DKvs.length : ∀ {vs : List (Key × V)} {ds : List (Key × Dv)}, DKvs K μ H vs ds → vs.length = ds.length
  | _, _, .nil => rfl
  | _, _, .cons _ t => congrArg (· + 1) t.length
/-- a dict, locked or not -/
inductive DicD (μ : M) (a : Addr) (kvs : List (Key × Dv)) : Prop where
  | dic (h : μ a = some (.dic kvs)) | fdc (h : μ a = some (.fdc kvs))
theorem DicD.rep {a : Addr} {kvs : List (Key × Dv)} (h : DicD μ a kvs) (r : Rep K μ H) : ∃ vs, Rd H a (.dK vs) ∧ DKvs K μ H vs kvs := by
  cases h with
  | dic h => obtain ⟨vs, e, q⟩ := r _ _ h; exact ⟨vs, .inl e, q⟩
  | fdc h => obtain ⟨o, vs, e, q⟩ := r _ _ h; exact ⟨vs, .inr ⟨o, e⟩, q⟩
theorem key_rep {u : V} {k : Key} (d : DRep K μ H u (keyD k)) : u = kV k := by
  cases k with
  | inl i => cases d; rfl
  | inr z => cases d; rfl
end
section
variable {X : Cx} {W : WX} {KE : XD} {e f i o value : Expr} {st : Stmt} {n : En} {μ : M} {k : DK} {kb : Bool → M → Prop} {P : Ed} {pos pos' apos cpos : Pos} {kl : Nat} {K : Kf}
theorem je_dget (c : Cok kl X W) (hs : NoSl i) (h : JE X W KE o n μ fun d μ1 => JE X W KE i n μ1 fun y μ2 => ∃ a kvs key v, d = .obj a ∧ DicD μ2 a kvs ∧ y = keyD key ∧ valD kvs key = some v ∧ k v μ2) : JE X W KE (.Subscript o i pos) n μ k :=
  je_of (pe_dget (by have := c.room.un; omega) peC peC hs) fun σ H Q ev rp t q => by
    refine h σ H _ ev rp t fun u d H1 μ1 h1 s1 r1 d1 => ?_
    refine h1 σ H1 _ (ev.step s1) r1 (t.step s1) fun w y H2 μ2 h2 s2 r2 d2 => ?_
    obtain ⟨a, kvs, key, v, rfl, hd, rfl, hv, hk⟩ := h2
    cases d1
    obtain rfl := key_rep d2
    obtain ⟨vs, e1, rr⟩ := hd.rep r2
    obtain ⟨x, ex, dx⟩ := rr.valS hv
    exact ⟨a, x, rfl, .inl ⟨vs, key, e1, rfl, ex.symm⟩, q _ _ _ _ hk (s1.trans s2) r2 dx⟩
theorem dget_of {H : Hp} {a : Addr} {kvs : List (Key × Dv)} {key : Key} (hd : DicD μ a kvs) (r : Rep K μ H) : ∃ o, DGet H a (kV key) o ∧ o.isSome = (valD kvs key).isSome ∧ ∀ d, valD kvs key = some d → ∃ v, o = some v ∧ DRep K μ H v d := by
  obtain ⟨vs, e1, rr⟩ := hd.rep r
  refine ⟨_, .inl ⟨vs, key, e1, rfl, rfl⟩, ?_, fun d e => ?_⟩
  · cases e : valD kvs key with
    | none => rw [rr.valN e]; rfl
    | some d => obtain ⟨v, q, _⟩ := rr.valS e; rw [q]; rfl
  · exact rr.valS e
theorem je_din (c : Cok kl X W) (h : JE X W KE i n μ fun y μ1 => JE X W KE o n μ1 fun d μ2 => ∃ a kvs key, d = .obj a ∧ DicD μ2 a kvs ∧ y = keyD key ∧ k (.bl (valD kvs key).isSome) μ2) (hm : behindInMarks .In o = false := by rfl) : JE X W KE (.Compare i [.In] [o] pos) n μ k :=
  je_of (pe_cmp (pc_din (by have := c.room.un; omega) peC peC) hm) fun σ H Q ev rp t q => by
    refine h σ H _ ev rp t fun u y H1 μ1 h1 s1 r1 d1 => ?_
    refine h1 σ H1 _ (ev.step s1) r1 (t.step s1) fun w d H2 μ2 h2 s2 r2 d2 => ?_
    obtain ⟨a, kvs, key, rfl, hd, rfl, hk⟩ := h2
    cases d2
    obtain rfl := key_rep d1
    obtain ⟨ov, g, e, _⟩ := dget_of (key := key) hd r2
    exact ⟨a, ov, rfl, g, by rw [e]; exact q _ _ _ _ hk (s1.trans s2) r2 (.bl _)⟩
theorem jt_din (c : Cok kl X W) (h : JE X W KE i n μ fun y μ1 => JE X W KE o n μ1 fun d μ2 => ∃ a kvs key, d = .obj a ∧ DicD μ2 a kvs ∧ y = keyD key ∧ kb (valD kvs key).isSome μ2) (hm : behindInMarks .In o = false := by rfl) : JT X W KE (.Compare i [.In] [o] pos) n μ kb :=
  jt_of (pt_cmp (pc_din (by have := c.room.un; omega) peC peC) hm) fun σ H Q ev rp t q => by
    refine h σ H _ ev rp t fun u y H1 μ1 h1 s1 r1 d1 => ?_
    refine h1 σ H1 _ (ev.step s1) r1 (t.step s1) fun w d H2 μ2 h2 s2 r2 d2 => ?_
    obtain ⟨a, kvs, key, rfl, hd, rfl, hk⟩ := h2
    cases d2
    obtain rfl := key_rep d1
    obtain ⟨ov, g, e, _⟩ := dget_of (key := key) hd r2
    exact ⟨a, ov, rfl, g, _, rfl, by rw [e]; exact q _ _ _ hk (s1.trans s2) r2⟩
/-- o[i] = value, o a dict -/
theorem js_dput (c : Cok kl X W) (h : JE X W KE value n μ fun v μ1 => JE X W KE o n μ1 fun d μ2 => JE X W KE i n μ2 fun y μ3 => ∃ a kvs key, d = .obj a ∧ μ3 a = some (.dic kvs) ∧ y = keyD key ∧ kvs.length < sizeLine ∧ P.nx n (updM μ3 a (.dic (putKD kvs key v))))
    (hs : swapsWith value (some (.Subscript o i pos')) pos.line X.env = pure false := by rfl) : JS X W KE (.Assign [.Subscript o i pos'] value pos) n μ P :=
  js_of (ps_dput (by have := c.room.un; omega) peC peC peC hs) fun σ H D ev rp t q => by
    refine h σ H _ ev rp t fun u v H1 μ1 h1 s1 r1 d1 => ?_
    refine h1 σ H1 _ (ev.step s1) r1 (t.step s1) fun w d H2 μ2 h2 s2 r2 d2 => ?_
    refine h2 σ H2 _ (ev.step (s1.trans s2)) r2 (t.step (s1.trans s2)) fun x y H3 μ3 h3 s3 r3 d3 => ?_
    obtain ⟨a, kvs, key, rfl, ha, rfl, hl, hk⟩ := h3
    cases d2
    obtain rfl := key_rep d3
    obtain ⟨vs, e, rr⟩ := r3 _ _ ha
    have s4 := Step.mut (H := H3) (o := .dK (putK vs key u)) (u := .dic (putKD kvs key v)) ha
    have sA := ((s1.trans s2).trans s3).trans s4
    refine ⟨a, _, rfl, .k e (by rw [rr.length]; exact hl), q.nx _ _ _ _ hk (ev.step sA) sA (r3.put s4 ⟨_, upd_same, (rr.step s4).put ((d1.step (s2.trans s3)).step s4)⟩)⟩
/-- a dict is locked while a statement walks over it -/
theorem js_lock {a : Addr} {kvs : List (Key × Dv)} (ha : μ a = some (.dic kvs)) (h : JS X W KE st n (updM μ a (.fdc kvs))
    { nx := fun n1 μ1 => P.nx n1 (updM μ1 a (.dic kvs)), rt := fun d μ1 => P.rt d (updM μ1 a (.dic kvs)), bk := fun n1 μ1 => P.bk n1 (updM μ1 a (.dic kvs)), ct := fun n1 μ1 => P.ct n1 (updM μ1 a (.dic kvs)) }) : JS X W KE st n μ P :=
  js_of (ps_lock psC) fun σ H D ev rp t q => by
    obtain ⟨vs, e, rr⟩ := rp _ _ ha
    refine ⟨a, .dK vs, e, True.intro, fun od => ?_⟩
    have s1 : Step μ H (updM μ a (.fdc kvs)) (upd H a (.frz od (.dK vs))) := Step.mut ha
    have back : ∀ {μ1 : M} {H1 : Hp}, Step (updM μ a (.fdc kvs)) (upd H a (.frz od (.dK vs))) μ1 H1 → Rep X.K μ1 H1 → H1 a = some (.frz od (.dK vs)) ∧ Step μ H (updM μ1 a (.dic kvs)) (upd H1 a (.dK vs)) ∧ Step0 μ1 H1 (updM μ1 a (.dic kvs)) (upd H1 a (.dK vs)) ∧ Rep X.K (updM μ1 a (.dic kvs)) (upd H1 a (.dK vs)) := by
      intro μ1 H1 s2 r2
      obtain ⟨e1, m1⟩ := s2.l a _ kvs upd_same updM_same
      have s0 : Step0 μ1 H1 (updM μ1 a (.dic kvs)) (upd H1 a (.dK vs)) := fun b o hb nb => by
        have ne : b ≠ a := fun z => by rw [z, m1] at nb; cases nb
        exact ⟨by rw [upd_ne ne]; exact hb, by rw [updM_ne ne]; exact nb⟩
      obtain ⟨od2, vs2, e2, rr2⟩ := r2 _ _ m1
      rw [e1] at e2
      cases e2
      refine ⟨e1, ⟨fun b o hb nb => ?_, fun b o k2 hb nb => ?_⟩, s0, fun b o hb => ?_⟩
      · have ne : b ≠ a := fun z => by rw [z, ha] at nb; cases nb
        obtain ⟨x1, x2⟩ := s2.d b o (by rw [upd_ne ne]; exact hb) (by rw [updM_ne ne]; exact nb)
        exact ⟨by rw [upd_ne ne]; exact x1, by rw [updM_ne ne]; exact x2⟩
      · have ne : b ≠ a := fun z => by rw [z, ha] at nb; cases nb
        obtain ⟨x1, x2⟩ := s2.l b o k2 (by rw [upd_ne ne]; exact hb) (by rw [updM_ne ne]; exact nb)
        exact ⟨by rw [upd_ne ne]; exact x1, by rw [updM_ne ne]; exact x2⟩
      · by_cases z : b = a
        · subst z
          rw [updM_same] at hb
          cases hb
          exact ⟨vs, upd_same, DKvs.step0 s0 rr2⟩
        · rw [updM_ne z] at hb
          exact MRep.step0 s0 (upd_ne z) (r2 b o hb)
    have envB : ∀ {μ1 : M} {H1 : Hp} {σ1 : L2.St} {e1 : En}, Step0 μ1 H1 (updM μ1 a (.dic kvs)) (upd H1 a (.dK vs)) → Env X.K μ1 H1 σ1 e1 → Env X.K (updM μ1 a (.dic kvs)) (upd H1 a (.dK vs)) σ1 e1 :=
      fun s0 ev1 => ⟨ev1.1, fun i d q => let ⟨v, x, y⟩ := ev1.2 i d q; ⟨v, x, DRep.step0 s0 y⟩⟩
    refine h σ _ _ (ev.step s1) ?_ (t.step s1) ⟨fun σ1 e1 H1 μ1 hp ev1 st1 rp1 => ?_, fun v d H1 μ1 hp st1 rp1 dv => ?_, fun σ1 e1 H1 μ1 hp ev1 st1 rp1 => ?_, fun σ1 e1 H1 μ1 hp ev1 st1 rp1 => ?_⟩
    · exact rp.put s1 ⟨od, vs, upd_same, rr.step s1⟩
    · obtain ⟨x1, x2, x3, x4⟩ := back st1 rp1
      exact ⟨x1, q.nx _ _ _ _ hp (envB x3 ev1) x2 x4⟩
    · obtain ⟨x1, x2, x3, x4⟩ := back st1 rp1
      exact ⟨x1, q.rt _ _ _ _ hp x2 x4 (DRep.step0 x3 dv)⟩
    · obtain ⟨x1, x2, x3, x4⟩ := back st1 rp1
      exact ⟨x1, q.bk _ _ _ _ hp (envB x3 ev1) x2 x4⟩
    · obtain ⟨x1, x2, x3, x4⟩ := back st1 rp1
      exact ⟨x1, q.ct _ _ _ _ hp (envB x3 ev1) x2 x4⟩
/-- tuple(..) of a list, of a tuple -/
theorem d_tupOf {x : Dv} {xs : List Dv} (l : SqD μ x xs) (h : k (.tup xs) μ) : DCl K (fun us H Q => ∃ p ys, us = [V.ref p] ∧ ((SqL K H p ys ∧ ∀ l, H l = none → Q (.ref l) (upd H l (.tup ys))) ∨ (SqT K H p ys ∧ Q (.ref p) H))) [x] μ k := fun us H Q r d t => by
  cases d with
  | cons d0 d1 =>
    cases d1
    obtain ⟨a, vs, rfl, ha, ra⟩ := l.rep r d0
    exact ⟨a, vs, rfl, .inl ⟨ha, fun p hp => tl_new t h r hp (.tup upd_same (r.free hp) (ra.step (Step.new hp)))⟩⟩
theorem d_tupOfT {xs : List Dv} (h : k (.tup xs) μ) : DCl K (fun us H Q => ∃ p ys, us = [V.ref p] ∧ ((SqL K H p ys ∧ ∀ l, H l = none → Q (.ref l) (upd H l (.tup ys))) ∨ (SqT K H p ys ∧ Q (.ref p) H))) [.tup xs] μ k := fun us H Q r d t => by
  cases d with
  | cons d0 d1 =>
    cases d1
    obtain ⟨a, vs, rfl, ha, ra⟩ := tup_rep d0
    exact ⟨a, vs, rfl, .inr ⟨SqT.of ha, t _ _ _ _ h (Step.refl _ _) r d0⟩⟩
end
end DL

/-! ## signs, comprehensions that make things -/
namespace DL
open PySem PySem.Spec L2
section
variable {X : Cx} {W : WX} {KE : XD} {a b e : Expr} {n : En} {μ : M} {k : DK} {kb : Bool → M → Prop} {pos : Pos} {K : Kf} {scope : Scope} {ifs : List Expr} {elt : Expr} {i : Nat}
def rInSg : R2 := fun x y H Q => ∃ (c : Nat) (z : Str), x = .str ⟨#[c]⟩ ∧ y = .str z ∧ Q (.bl (decide (c ∈ z.cps.toList))) H
theorem je_inS (h : JE X W KE a n μ fun x μ1 => JE X W KE b n μ1 fun y μ2 => DOp X.K rInSg x y μ2 k) (hm : behindInMarks .In b = false := by rfl) : JE X W KE (.Compare a [.In] [b] pos) n μ k := je_cmp op_in_sign hm h
theorem d_inS {c : Nat} {z : Str} (h : k (.bl (decide (c ∈ z.cps.toList))) μ) : DOp K rInSg (.str ⟨#[c]⟩) (.str z) μ k := fun u v H Q r du dv t => by
  cases du; cases dv
  exact ⟨c, z, rfl, rfl, tl_pure t h r (.bl _)⟩
theorem LcTurn.mono {ko ko' : Option Dv → M → Prop} (h : LcTurn X scope ifs elt n μ ko) (m : ∀ o μ', ko o μ' → ko' o μ') : LcTurn X scope ifs elt n μ ko' := by
  intro s H C cl fp
  have h1 := h s H C cl fp
  match ifs, h1 with
  | [], h1 => exact ⟨fun z s2 H2 C2 cl2 fp2 => (h1.1 z s2 H2 C2 cl2 fp2).mono fun y μ3 q => m _ _ q, fun z => m _ _ (h1.2 z)⟩
  | [c], h1 => exact JT.mono h1 fun b μ2 q => ⟨fun z s2 H2 C2 cl2 fp2 => (q.1 z s2 H2 C2 cl2 fp2).mono fun y μ3 q => m _ _ q, fun z => m _ _ (q.2 z)⟩
theorem delM_ext {μ1 μ' : M} {p : Addr} (h : ∀ a o, μ1 a = some o → a ≠ p ∧ μ' a = some o) : ExtM μ1 (delM μ' p) := fun a o e => by
  obtain ⟨ne, q⟩ := h a o e
  rw [delM_ne ne]; exact q
/-- a comprehension each turn of which makes one new mutable thing -/
theorem lc_make {α : Type} (dv : α → Dv) (mk : α → MO) (xs : List α) {s : Src} {μ1 : M} (hs : s.items = xs.map dv) (hok : s.Ok μ1) (hl : xs.length < sizeLine)
    (h : ∀ (x : α) (μ' : M), x ∈ xs → ExtM μ1 μ' → LcTurn X scope ifs elt ((n.set i none).set i (some (dv x))) μ' fun o μ3 => ∃ a, o = some (.obj a) ∧ μ' a = none ∧ μ3 = updM μ' a (mk x))
    (hk : ∀ (as : List Addr) (μ' : M), ExtM μ1 μ' → as.length = xs.length → (∀ (j : Nat) (a : Addr) (x : α), as[j]? = some a → xs[j]? = some x → μ' a = some (mk x)) → as.Nodup → (∀ a ∈ as, μ1 a = none) → k (.lst (as.map Dv.obj)) μ') : LcAll X scope ifs elt i n k s μ1 := fun p hp => by
  refine ⟨fun j acc μ' => ∃ as : List Addr, acc = as.map Dv.obj ∧ μ' p = some (.lst acc) ∧ as.length = j ∧ j ≤ xs.length ∧ ExtM μ1 (delM μ' p) ∧ (∀ (m : Nat) (a : Addr) (x : α), as[m]? = some a → xs[m]? = some x → (delM μ' p) a = some (mk x)) ∧ as.Nodup ∧ (∀ a ∈ as, μ1 a = none), ?_, ?_, ?_, ?_⟩
  · refine ⟨[], rfl, updM_same, rfl, Nat.zero_le _, delM_ext fun a o e => ?_, fun m a x e => (by cases e), List.nodup_nil, fun a ha => (nomatch ha)⟩
    have ne : a ≠ p := fun z => by rw [z, hp] at e; cases e
    exact ⟨ne, by rw [updM_ne ne]; exact e⟩
  · rintro j acc μ' ⟨as, rfl, e, hj, hjl, hx, _⟩
    refine ⟨hok.ext fun a o q => ?_, e, by rw [List.length_map]; omega⟩
    have := hx a o q
    have ne : a ≠ p := fun z => by rw [z, delM_same] at this; cases this
    rw [delM_ne ne] at this
    exact this
  · rintro j x acc μ' hx ⟨as, rfl, e, hj, hjl, hx1, hm, nd, nw⟩
    rw [hs, List.getElem?_map] at hx
    cases hxx : xs[j]? with
    | none => rw [hxx] at hx; cases hx
    | some x0 =>
    rw [hxx] at hx
    cases hx
    have hjx : j < xs.length := (List.getElem?_eq_some_iff.mp hxx).1
    have ex : ExtM μ1 μ' := fun a o q => by
      have := hx1 a o q
      have ne : a ≠ p := fun z => by rw [z, delM_same] at this; cases this
      rw [delM_ne ne] at this
      exact this
    refine (h x0 μ' (List.mem_of_getElem? hxx) ex).mono fun o μ3 ⟨b, e1, e2, e3⟩ => ?_
    subst e1; subst e3
    have bp : b ≠ p := fun z => by rw [z, e] at e2; cases e2
    have key : delM (updM (updM μ' b (mk x0)) p (.lst (as.map Dv.obj ++ [.obj b]))) p = updM (delM μ' p) b (mk x0) := by
      funext q
      by_cases z : q = p
      · subst z
        rw [delM_same, updM_ne (Ne.symm bp), delM_same]
      · rw [delM_ne z, updM_ne z]
        by_cases y : q = b
        · subst y; rw [updM_same, updM_same]
        · rw [updM_ne y, updM_ne y, delM_ne z]
    have bn : b ∉ as := fun hb => by
      obtain ⟨m, hm1⟩ := List.getElem?_of_mem hb
      have hlt : m < xs.length := by have := (List.getElem?_eq_some_iff.mp hm1).1; omega
      have := hm m b _ hm1 (List.getElem?_eq_getElem hlt)
      rw [delM_ne bp, e2] at this
      cases this
    refine ⟨by rw [updM_ne (Ne.symm bp)]; exact e, as ++ [b], by rw [List.map_append]; rfl, updM_same, by rw [List.length_append, hj]; rfl, hjx, ?_, ?_, ?_, ?_⟩
    · rw [key]
      intro a o q
      have h1 := hx1 a o q
      have nb : a ≠ b := fun z => by rw [z, delM_ne bp, e2] at h1; cases h1
      rw [updM_ne nb]; exact h1
    · rw [key]
      intro m a x ha hx
      by_cases z : m < as.length
      · rw [List.getElem?_append_left z] at ha
        have nb : a ≠ b := fun q => bn (q ▸ List.mem_of_getElem? ha)
        rw [updM_ne nb]; exact hm m a x ha hx
      · rw [List.getElem?_append_right (by omega)] at ha
        have hm0 : m - as.length = 0 := by
          cases q : m - as.length with
          | zero => rfl
          | succ r => rw [q] at ha; cases ha
        rw [hm0] at ha
        cases ha
        have : m = j := by omega
        subst this
        rw [hxx] at hx
        cases hx
        exact updM_same
    · rw [List.nodup_append]
      refine ⟨nd, List.nodup_cons.mpr ⟨fun z => (nomatch z), List.nodup_nil⟩, fun x hx y hy q => ?_⟩
      cases List.mem_singleton.mp hy
      exact bn (q ▸ hx)
    · intro a ha
      rcases List.mem_append.mp ha with ha | ha
      · exact nw a ha
      · cases List.mem_singleton.mp ha
        cases q : μ1 b with
        | none => rfl
        | some o => rw [ex b o q] at e2; cases e2
  · rintro acc μ' ⟨as, rfl, e, hj, hjl, hx1, hm, nd, nw⟩
    rw [hs, List.length_map] at hj
    exact .inl (hk as _ hx1 hj hm nd nw)
end
end DL
namespace DL
open PySem PySem.Spec L2
section
variable {X : Cx} {W : WX} {KE : XD} {tg iter : Expr} {n : En} {μ : M} {ks : Src → M → Prop}
/-- a list or a tuple, walked -/
theorem ji_LT {d0 : Dv} {xs : List Dv} (hd : d0 = .lst xs ∨ d0 = .tup xs) (h : JE X W KE iter n μ fun d μ1 => d = d0 ∧ ∀ s : Src, s.items = xs → (∀ μ', s.Ok μ') → ks s μ1) : JI X W KE tg iter n μ ks := by
  rcases hd with rfl | rfl
  · exact ji_seq (h.mono fun d μ1 ⟨e, q⟩ => by subst e; exact ⟨xs, .lst _, q (.seq _ xs) rfl fun _ => .lst _⟩)
  · exact ji_tup (h.mono fun d μ1 ⟨e, q⟩ => by subst e; exact ⟨xs, rfl, q (.tup xs) rfl fun _ => trivial⟩)
end
end DL

/-! ## defs with defaults -/
namespace DL
open PySem PySem.Spec L2
theorem fn_dataD {Pg : Program} {w : World} {K : Kf} {mg : Str → Option Value} {base : Heap} {x qual : Str} {st : Stmt} {f : Addr} {fd : FuncData} {dvs : List V} {kws : List (Str × V)} {N ps : List Str} {k : Nat} {S : DSp} (F : FunD K x qual (defArgs st) (defBody st) (defScope st) dvs kws f fd) (Sc : FnScope N ps (defScope st)) (len : ∀ ds μ kd ke, S ds μ kd ke → ds.length = ps.length)
    (hbody : ∀ (cdv : Value) (A : Around) (outer : List PySem.Env) (s : Shared) (H : Hp) (E : XK),
      let X := cxOf (L2.CX Pg w) Pg w K mg base N qual (defScope st) f cdv A outer s H E
      Cok k X (fun cls d _ H => E cls d H) → PassesOwn (model X.prog X.w) X.A X.env X.xe → ∀ (ds : List Dv) (μ : M) (kd : DK) (ke : XF), S ds μ kd ke →
        JB X (fun cls d _ H => E cls d H) (fun cls fs _ μ' => ke cls fs μ') (defBody st) (ds.map some ++ List.replicate (N.length - ds.length) none) μ { nx := fun _ μ' => kd .non μ', rt := kd }) : FnOk Pg w K mg base (L2.CX Pg w) (k + 1) f fd ps (toSp K S) := by
  refine F.ok (CX := L2.CX Pg w) Sc (fun vs H Q E h => ?_) (fun cdv A outer s H vs Q E hr h => ?_)
  · obtain ⟨ds, μ, kd, ke, dr, rp, sp, _⟩ := h
    rw [dr.length]
    exact len _ _ _ _ sp
  · obtain ⟨ds, μ, kd, ke, dr, rp, sp, tl, tx⟩ := h
    refine ⟨_, pbC, hbody cdv A outer s H E ⟨hr, rfl, takes_of rfl rfl rfl rfl, Sc.nd⟩ (passes_of rfl) ds μ kd ke sp _ H _ ?_ rp (fun cls fs d σ' e' H' μ' h1 _ s1 r1 x1 => tx cls fs d H' μ' h1 s1 r1 x1) ⟨fun σ' e' H' μ' h1 _ s1 r1 => tl .non .non H' μ' h1 s1 r1 .non, tl, fun _ _ _ _ h => False.elim h, fun _ _ _ _ h => False.elim h⟩⟩
    unfold L2.start
    rw [dr.length]
    exact Env.start _ dr
end DL

/-! ## methods of built-in types, sorted(dict), d.get, enumerate, lists that stay mutable -/
namespace DL
open PySem PySem.Spec L2
/-- a method of a built-in type on data -/
def DMd (K : Kf) (r : V → List V → Hp → VK → Prop) (x : Dv) (ds : List Dv) (μ : M) (k : DK) : Prop := ∀ u us H Q, Rep K μ H → DRep K μ H u x → DReps K μ H us ds → Tl K μ H k Q → r u us H Q
theorem ExtM.trans {μ μ1 μ2 : M} (h : ExtM μ μ1) (g : ExtM μ1 μ2) : ExtM μ μ2 := fun a o e => g a o (h a o e)
def DTy (K : Kf) (T : String) (x : Dv) (μ : M) : Prop := ∀ u H, Rep K μ H → DRep K μ H u x → tyV K T u H
theorem SqD.mono {μ μ' : M} {d : Dv} {xs : List Dv} (l : SqD μ d xs) (e : ∀ a o, μ a = some o → μ' a = some o) : SqD μ' d xs := by
  cases l with
  | lst => exact .lst _
  | fro => exact .fro _
  | obj h => exact .obj (e _ _ h)
section
variable {X : Cx} {W : WX} {KE : XD} {e f o : Expr} {es : List Expr} {n : En} {μ : M} {k : DK} {pos apos cpos : Pos} {K : Kf} {name : Str} {T id : String} {r : V → List V → Hp → VK → Prop} {kl : Nat}
theorem DTy.lst {x : Dv} {xs : List Dv} (l : SqD μ x xs) : DTy K "list" x μ := fun u H rp d => by
  obtain ⟨a, vs, rfl, ha, _⟩ := l.rep rp d
  exact .inl ⟨rfl, _, ha⟩
theorem DTy.str {z : Str} : DTy K "str" (.str z) μ := fun u H rp d => by
  cases d
  rfl
theorem je_bm (pa : PlainAttrs T) (slot : Slot T name id) (hty : typeOf (.builtin id) = pure (.type "method_descriptor")) (hm : MtR X id r)
    (h : JE X W KE o n μ fun x μ1 => DTy X.K T x μ1 ∧ JA X W KE (e :: es) n μ1 fun ds μ2 => DMd X.K r x ds μ2 k)
    (hbase : attributeBase o name X.env (eval o X.env) = eval o X.env := by rfl)
    (hfew : ((backTo cpos (starEach (e :: es) X.env)).all (fun x => !x.1) && (backToKw cpos (keywordEach [] X.env)).all (fun x => x.1.isSome)
      && decide ((e :: es).length + ([] : List Keyword).length + (if ([] : List Keyword).isEmpty then 0 else 1) < 30)) = true := by rfl)
    (hline : (apos.endLine == cpos.line) = true := by rfl) (hs : starEach (e :: es) X.env = (false, eval e X.env) :: starEach es X.env := by rfl) (hplain : (backTo cpos (starEach es X.env)).any (·.1) = false := by rfl) :
    JE X W KE (.Call (.Attribute o name apos) (e :: es) [] cpos) n μ k :=
  je_of (pe_bm pa slot hty hm peC paC hbase hfew hline hs hplain) fun σ H Q ev rp t q => by
    refine h σ H _ ev rp t fun u x H1 μ1 h1 s1 r1 d1 => ?_
    obtain ⟨ty, h1⟩ := h1
    refine ⟨ty u H1 r1 d1, ?_⟩
    refine h1 σ H1 _ (ev.step s1) r1 (t.step s1) fun us ds H2 μ2 h2 s2 r2 d2 => ?_
    exact h2 u us H2 Q r2 (d1.step s2) d2 (q.step (s1.trans s2))
theorem je_bm0 (pa : PlainAttrs T) (slot : Slot T name id) (hty : typeOf (.builtin id) = pure (.type "method_descriptor")) (hm : MtR X id r)
    (h : JE X W KE o n μ fun x μ1 => DTy X.K T x μ1 ∧ DMd X.K r x [] μ1 k)
    (hbase : attributeBase o name X.env (eval o X.env) = eval o X.env := by rfl) (hline : (apos.endLine == cpos.line) = true := by rfl) :
    JE X W KE (.Call (.Attribute o name apos) [] [] cpos) n μ k :=
  je_of (pe_bm0 pa slot hty hm peC hbase hline) fun σ H Q ev rp t q => by
    refine h σ H _ ev rp t fun u x H1 μ1 h1 s1 r1 d1 => ?_
    obtain ⟨ty, h1⟩ := h1
    exact ⟨ty u H1 r1 d1, h1 u [] H1 Q r1 d1 .nil (q.step s1)⟩
/-- xs.reverse() of a mutable list -/
theorem d_reverse {a : Addr} {xs : List Dv} (ha : μ a = some (.lst xs)) (h : k .non (updM μ a (.lst xs.reverse))) : DMd K rReverse (.obj a) [] μ k := fun u us H Q rp d ds t => by
  cases d; cases ds
  obtain ⟨vs, e, rr⟩ := rp _ _ ha
  have s3 := Step.mut (H := H) (o := .lst vs.reverse) (u := .lst xs.reverse) ha
  exact ⟨a, vs, rfl, rfl, e, t _ _ _ _ h s3 (rp.put s3 ⟨_, upd_same, rr.reverse.step s3⟩) .non⟩
def rInsert : V → List V → Hp → VK → Prop := fun x vs H Q => ∃ (l : Addr) (xs : List V) (i : Int) (y : V), x = .ref l ∧ vs = [.int i, y] ∧ H l = some (.lst xs) ∧ xs.length < sizeLine ∧ 0 ≤ i ∧ i < 2 ^ 63 ∧
    Q .non (upd H l (.lst (xs.take i.toNat ++ [y] ++ xs.drop i.toNat)))
theorem d_insert {a : Addr} {xs : List Dv} {i : Int} {y : Dv} (ha : μ a = some (.lst xs)) (hz : xs.length < sizeLine) (h0 : 0 ≤ i) (h1 : i < 2 ^ 63) (h : k .non (updM μ a (.lst (xs.take i.toNat ++ [y] ++ xs.drop i.toNat)))) : DMd K rInsert (.obj a) [.int i, y] μ k := fun u us H Q rp d ds t => by
  cases d
  cases ds with
  | cons d1 ds =>
    cases ds with
    | cons d2 ds =>
      cases ds; cases d1
      obtain ⟨vs, e, rr⟩ := rp _ _ ha
      rename_i w0
      have s3 := Step.mut (H := H) (o := .lst (vs.take i.toNat ++ [w0] ++ vs.drop i.toNat)) (u := .lst (xs.take i.toNat ++ [y] ++ xs.drop i.toNat)) ha
      exact ⟨a, vs, i, _, rfl, rfl, e, by rw [rr.length]; exact hz, h0, h1, t _ _ _ _ h s3 (rp.put s3 ⟨_, upd_same, (((rr.take _).append (.one d2)).append (rr.drop _)).step s3⟩) .non⟩
/-- d.get(k, x) -/
theorem je_dget2 (c : Cok kl X W) (h : JE X W KE o n μ fun d μ1 => ∃ a, d = .obj a ∧ (∃ kvs, DicD μ1 a kvs) ∧ JE X W KE e n μ1 fun y μ2 => JE X W KE f n μ2 fun z μ3 => ∃ kvs key, DicD μ3 a kvs ∧ y = keyD key ∧ k ((valD kvs key).getD z) μ3)
    (m : M2 X o "get" apos e f cpos := by exact ⟨rfl, rfl, rfl, rfl⟩) : JE X W KE (.Call (.Attribute o "get" apos) [e, f] [] cpos) n μ k :=
  je_of (pe_dget2 (by have := c.room.un; omega) peC peC peC m) fun σ H Q ev rp t q => by
    refine h σ H _ ev rp t fun u d H1 μ1 h1 s1 r1 d1 => ?_
    obtain ⟨a, rfl, ⟨kv0, hd0⟩, h1⟩ := h1
    cases d1
    obtain ⟨vs0, e0, _⟩ := hd0.rep r1
    refine ⟨a, rfl, .inl ⟨vs0, e0⟩, ?_⟩
    refine h1 σ H1 _ (ev.step s1) r1 (t.step s1) fun w y H2 μ2 h2 s2 r2 d2 => ?_
    have s12 := s1.trans s2
    refine h2 σ H2 _ (ev.step s12) r2 (t.step s12) fun z zd H3 μ3 h3 s3 r3 d3 => ?_
    obtain ⟨kvs, key, hd, rfl, hk⟩ := h3
    obtain rfl := key_rep (d2.step s3)
    obtain ⟨vs, e1, rr⟩ := hd.rep r3
    refine ⟨_, .inl ⟨vs, key, e1, rfl, rfl⟩, ?_⟩
    cases hv : valD kvs key with
    | none => rw [rr.valN hv]; rw [hv] at hk; exact q _ _ _ _ hk (s12.trans s3) r3 d3
    | some v =>
      obtain ⟨x, ex, dx⟩ := rr.valS hv
      rw [ex]; rw [hv] at hk
      exact q _ _ _ _ hk (s12.trans s3) r3 dx
def rSortedDD : List V → Hp → VK → Prop := fun xs H Q => ∃ (a : Addr) (kvs : List (Key × V)) (ks : List Str), xs = [.ref a] ∧ Rd H a (.dK kvs) ∧ kvs.map (·.1) = ks.map Sum.inr ∧ ks.length < 64 ∧
    ∀ ys p, ys.Perm ks → PyProof.Rows.sortedS ys = true → H p = none → Q (.ref p) (upd H p (.lst (ys.map V.str)))
/-- sorted(d), the list mutable -/
theorem d_sortedDM {a : Addr} {kvs : List (Key × Dv)} {ks : List Str} (hd : DicD μ a kvs) (hk : kvs.map (·.1) = ks.map Sum.inr) (h64 : ks.length < 64) (h : ∀ ys p, ys.Perm ks → PyProof.Rows.sortedS ys = true → μ p = none → k (.obj p) (updM μ p (.lst (ys.map Dv.str)))) : DCl K rSortedDD [.obj a] μ k := fun us H Q rp d t => by
  cases d with
  | cons d0 d1 =>
    cases d1; cases d0
    obtain ⟨vs, e1, rr⟩ := hd.rep rp
    refine ⟨a, vs, ks, rfl, e1, rr.keys.trans hk, h64, fun ys p h1 h2 hp => ?_⟩
    have s2 : Step μ H (updM μ p (.lst (ys.map Dv.str))) (upd H p (.lst (ys.map V.str))) := Step.newM hp
    exact t _ _ _ _ (h ys p h1 h2 (rp.free hp)) s2 (rp.put s2 ⟨_, upd_same, DReps.ofStrs ys⟩) (.obj p)
theorem d_sortedD {a : Addr} {kvs : List (Key × Dv)} {ks : List Str} (hd : DicD μ a kvs) (hk : kvs.map (·.1) = ks.map Sum.inr) (h64 : ks.length < 64) (h : ∀ ys, ys.Perm ks → PyProof.Rows.sortedS ys = true → k (.lst (ys.map Dv.str)) μ) : DCl K rSortedDD [.obj a] μ k := fun us H Q rp d t => by
  cases d with
  | cons d0 d1 =>
    cases d1; cases d0
    obtain ⟨vs, e1, rr⟩ := hd.rep rp
    refine ⟨a, vs, ks, rfl, e1, rr.keys.trans hk, h64, fun ys p h1 h2 hp => ?_⟩
    exact tl_new t (h ys h1 h2) rp hp (.lst upd_same (rp.free hp) (DReps.ofStrs ys))
end
/-! sorted texts are one list -/
theorem ltC_irr : ∀ a : List Nat, ltCps a a = false
  | [] => rfl
  | a :: r => by show (decide (a < a) || (a == a && ltCps r r)) = false; rw [ltC_irr r, decide_eq_false (Nat.lt_irrefl a)]; simp
theorem ltC_tri : ∀ {a b : List Nat}, ltCps a b = false → ltCps b a = false → a = b
  | [], [], _, _ => rfl
  | [], _ :: _, h, _ => by cases h
  | _ :: _, [], _, h => by cases h
  | a :: r, b :: t, h, h' => by
    replace h : (decide (a < b) || (a == b && ltCps r t)) = false := h
    replace h' : (decide (b < a) || (b == a && ltCps t r)) = false := h'
    simp only [Bool.or_eq_false_iff, decide_eq_false_iff_not, Bool.and_eq_false_iff, beq_eq_false_iff_ne] at h h'
    have e : a = b := by omega
    subst e
    rw [ltC_tri (h.2.resolve_left (fun z => z rfl)) (h'.2.resolve_left (fun z => z rfl))]
theorem ltC_trans : ∀ {a b c : List Nat}, ltCps b a = false → ltCps c b = false → ltCps c a = false
  | [], _, [], _, _ => rfl
  | _ :: _, [], _, h, _ => by cases h
  | _, _ :: _, [], _, h => by cases h
  | [], _, _ :: _, _, _ => rfl
  | a :: r, b :: s, c :: t, h, h' => by
    replace h : (decide (b < a) || (b == a && ltCps s r)) = false := h
    replace h' : (decide (c < b) || (c == b && ltCps t s)) = false := h'
    show (decide (c < a) || (c == a && ltCps t r)) = false
    simp only [Bool.or_eq_false_iff, decide_eq_false_iff_not, Bool.and_eq_false_iff, beq_eq_false_iff_ne] at h h' ⊢
    refine ⟨by omega, ?_⟩
    by_cases e : c = a
    · right
      have e1 : b = a := by omega
      have e2 : c = b := by omega
      exact ltC_trans (h.2.resolve_left (fun z => z e1)) (h'.2.resolve_left (fun z => z e2))
    · exact .inl e
theorem rising_pw : ∀ {l : List Str} {p : Str}, PyProof.Rows.risingS p l = true → (p :: l).Pairwise fun a b => ltCps b.cps.toList a.cps.toList = false
  | [], p, _ => List.pairwise_singleton _ _
  | x :: r, p, h => by
    replace h : (!ltCps x.cps.toList p.cps.toList && PyProof.Rows.risingS x r) = true := h
    rw [Bool.and_eq_true] at h
    have ih := rising_pw h.2
    have h1 : ltCps x.cps.toList p.cps.toList = false := by simpa using h.1
    refine List.pairwise_cons.mpr ⟨fun y hy => ?_, ih⟩
    rcases List.mem_cons.mp hy with rfl | hy
    · exact h1
    · exact ltC_trans h1 ((List.pairwise_cons.mp ih).1 y hy)
theorem sortedS_pw {l : List Str} (h : PyProof.Rows.sortedS l = true) : l.Pairwise fun a b => ltCps b.cps.toList a.cps.toList = false := by
  cases l with
  | nil => exact .nil
  | cons x r => exact rising_pw h
theorem str_ext {a b : Str} (h : a.cps.toList = b.cps.toList) : a = b := by
  obtain ⟨⟨x⟩⟩ := a
  obtain ⟨⟨y⟩⟩ := b
  cases (show x = y from h)
  rfl
theorem sortedS_uniq {l l' : List Str} (p : l.Perm l') (h : PyProof.Rows.sortedS l = true) (h' : PyProof.Rows.sortedS l' = true) : l = l' :=
  List.Perm.eq_of_pairwise (le := fun a b : Str => ltCps b.cps.toList a.cps.toList = false) (fun a b _ _ h1 h2 => str_ext (ltC_tri h2 h1)) (sortedS_pw h) (sortedS_pw h') p
/-! comprehensions that stay mutable -/
section
variable {X : Cx} {scope : Scope} {ifs : List Expr} {elt : Expr} {i : Nat} {n : En} {k : DK}
theorem lc_mapM {α : Type} (dv : α → Dv) (xs : List α) (g : α → Option Dv) {s : Src} {μ1 : M} (hs : s.items = xs.map dv) (hok : s.Ok μ1) (hl : xs.length < sizeLine)
    (h : ∀ (j : Nat) (x : α) (μ' : M), xs[j]? = some x → ExtM μ1 μ' → LcTurn X scope ifs elt ((n.set i none).set i (some (dv x))) μ' fun o μ3 => o = g x ∧ μ3 = μ') (hk : ∀ a, μ1 a = none → k (.obj a) (updM μ1 a (.lst (xs.filterMap g)))) : LcAll X scope ifs elt i n k s μ1 := fun a ha => by
  obtain ⟨Iv, h0, hok', ht, hend⟩ := lc_map (k := fun d μ' => d = .lst (xs.filterMap g) ∧ μ' = μ1) dv xs g hs hok hl h ⟨rfl, rfl⟩ a ha
  refine ⟨Iv, h0, hok', ht, fun acc μ' iv => ?_⟩
  rcases hend acc μ' iv with ⟨e1, e2⟩ | ⟨_, e1, _⟩
  · cases e1
    have hm := (hok' _ _ _ iv).2.1
    refine .inr ⟨hm, ?_⟩
    rw [show μ' = updM μ1 a (.lst (xs.filterMap g)) from ?_]
    · exact hk a ha
    · funext b
      by_cases z : b = a
      · rw [z, updM_same, hm]
      · rw [updM_ne z, ← e2, delM_ne z]
  · cases e1
end
end DL
namespace DL
open PySem PySem.Spec L2
/-! a list, a tuple, a list that may change -/
inductive LTD (μ : M) : Dv → List Dv → Prop where
  | lst (xs : List Dv) : LTD μ (.lst xs) xs
  | tup (xs : List Dv) : LTD μ (.tup xs) xs
  | obj {a : Addr} {xs : List Dv} (h : μ a = some (.lst xs)) : LTD μ (.obj a) xs
theorem LTD.ext {μ μ' : M} {d : Dv} {xs : List Dv} (l : LTD μ d xs) (e : ExtM μ μ') : LTD μ' d xs := by
  cases l with
  | lst => exact .lst _
  | tup => exact .tup _
  | obj h => exact .obj (e _ _ h)
section
variable {X : Cx} {W : WX} {KE : XD} {tg iter : Expr} {n : En} {μ : M} {ks : Src → M → Prop} {k : DK} {K : Kf}
theorem ji_LTD {d0 : Dv} {xs : List Dv} (hd : LTD μ d0 xs) (h : JE X W KE iter n μ fun d μ1 => d = d0 ∧ μ1 = μ ∧ ∀ s : Src, s.items = xs → (∀ μ', ExtM μ μ' → s.Ok μ') → ks s μ1) : JI X W KE tg iter n μ ks := by
  cases hd with
  | lst => exact ji_seq (h.mono fun d μ1 ⟨e, _, q⟩ => by subst e; exact ⟨xs, .lst _, q (.seq _ xs) rfl fun _ _ => .lst _⟩)
  | tup => exact ji_tup (h.mono fun d μ1 ⟨e, _, q⟩ => by subst e; exact ⟨xs, rfl, q (.tup xs) rfl fun _ _ => trivial⟩)
  | obj ha => exact ji_seq (h.mono fun d μ1 ⟨e, e2, q⟩ => by subst e; subst e2; exact ⟨xs, .obj ha, q (.seq _ xs) rfl fun _ x => .obj (x _ _ ha)⟩)
theorem d_isLTD {d : Dv} {xs : List Dv} (hd : LTD μ d xs) (h : k (.bl true) μ) : DCl K (rIsiA K) [d, .tup [.ty "list", .ty "tuple"]] μ k := by
  cases hd with
  | lst => exact d_isiT (.lst _) (.cons (.ty _) (.cons (.ty _) .nil)) (kitAny_cons (kit_ty (r := true) (by decide +kernel)) (fun z => nomatch z) fun _ => rfl) h
  | tup => exact d_isiT (.tup _) (.cons (.ty _) (.cons (.ty _) .nil)) (kitAny_cons (kit_ty (r := false) (by decide +kernel)) (fun _ => kitAny_cons (kit_ty (r := true) (by decide +kernel)) (fun z => nomatch z) fun _ => rfl) fun z => nomatch z) h
  | obj ha => exact d_isiT (.lstM ha) (.cons (.ty _) (.cons (.ty _) .nil)) (kitAny_cons (kit_ty (r := true) (by decide +kernel)) (fun z => nomatch z) fun _ => rfl) h
theorem d_lenLTD {d : Dv} {xs : List Dv} (hd : LTD μ d xs) (h : k (.int xs.length) μ) : DCl K (rLenA K) [d] μ k := by
  cases hd with
  | lst => exact d_lenL (.lst _) h
  | tup => exact d_lenT h
  | obj ha => exact d_lenL (.obj ha) h
theorem d_tupLTD {d : Dv} {xs : List Dv} (hd : LTD μ d xs) (h : k (.tup xs) μ) : DCl K (fun us H Q => ∃ p ys, us = [V.ref p] ∧ ((SqL K H p ys ∧ ∀ l, H l = none → Q (.ref l) (upd H l (.tup ys))) ∨ (SqT K H p ys ∧ Q (.ref p) H))) [d] μ k := by
  cases hd with
  | lst => exact d_tupOf (.lst _) h
  | tup => exact d_tupOfT h
  | obj ha => exact d_tupOf (.obj ha) h
theorem d_listLTD {d : Dv} {xs : List Dv} (hd : LTD μ d xs) (h : k (.lst xs) μ) : DCl K (fun ys H Q => ∃ p zs, ys = [V.ref p] ∧ (SqL K H p zs ∨ SqT K H p zs) ∧ ∀ l, H l = none → Q (.ref l) (upd H l (.lst zs))) [d] μ k := by
  cases hd with
  | lst => exact d_listOf (.lst _) h
  | tup => exact d_listOfT h
  | obj ha => exact d_listOf (.obj ha) h
end
end DL

/-! ## list.count, list.index, xs[i] = v, for i, x in enumerate(xs) -/
namespace DL
open PySem PySem.Spec L2
/-- l.count(x) -/
def rCountD (K : Kf) : V → List V → Hp → VK → Prop := fun x xs H Q => ∃ (a : Addr) (y : V) (d : PyData) (ds : List PyData), x = V.ref a ∧ xs = [y] ∧ Dp K H (V.ref a) (.list ds) ∧ Dp K H y d ∧
  SeqAt.shaped (.list ds) = true ∧ SeqAt.shaped d = true ∧ Q (.int (ds.countP fun z => PyData.eqv z d : Nat)) H
theorem mt_countD {X : Cx} (hu : X.A.units + 65 < cLine) : MtR X "list.count" (rCountD X.K) := by
  intro pins s σ H x xs v us Q I rx rxs h
  obtain ⟨a, y, d, ds, rfl, rfl, hl, hy, sl, sd, q⟩ := h
  cases rx
  cases rxs with
  | cons ry rt =>
    rename_i uy ut
    cases rt
    obtain ⟨bs, r1⟩ := Dp.reads I d y uy hy ry
    have hxs : PyData.canLayAll0 ds = true := SeqAt.canLay_of_shaped sl
    have hroom : X.A.units + 1 + min (PyData.depthAll ds) d.depth < cLine := PyProof.Rows.room_in_shaped sd hu
    cases hl with
    | lst hs ha =>
      obtain ⟨its, rv, ⟨⟨cls, dd, data, sls⟩, n, ho, hc, hdn, hdt⟩, hlen⟩ := I.list hs
      simp only at hc hdt
      subst hc hdt
      obtain ⟨as, h4⟩ := Dp.readsAll I ds _ its ha rv
      have hmap : its.map (SeqAt.readOf s.heap) = ds := SeqAt.readsAll_map ds its as hxs h4
      refine call_meets PySem.F.slot_list_count ⟨_, ho, rfl⟩ PySem.F.entry_list_count (PySem.F.args_list_count_2 _ _)
        (SeqAt.list_countAt a its.toArray n dd sls uy (fun u => PyData.eqv (SeqAt.readOf s.heap u) d)) ⟨ho, SeqAt.items_eqAt (vs := its.toArray) h4 r1 hxs (SeqAt.canLay_of_shaped sd) hroom, ?_⟩
      have ec : its.toArray.toList.countP (fun u => PyData.eqv (SeqAt.readOf s.heap u) d) = ds.countP fun z => PyData.eqv z d := by
        rw [← hmap, List.countP_map]; rfl
      refine ⟨.int (ds.countP fun z => PyData.eqv z d : Nat), H, I.tok _, ⟨s.toks, ?_⟩, q⟩
      show Value.int ((its.toArray.toList.countP (fun u => PyData.eqv (SeqAt.readOf s.heap u) d) : Nat) : Int) s.toks = Value.int ((ds.countP fun z => PyData.eqv z d : Nat) : Int) s.toks
      rw [ec]
def Enc.bl : Enc Bool := ⟨Dv.bl, PyData.bool, 0, fun _ => by unfold DL.toPy; rfl, fun _ => by unfold PyData.canLay0; rfl, fun _ => by unfold PyData.depth; exact Nat.le_refl _, fun x y => by
  unfold PyData.eqv
  cases x <;> cases y <;> rfl⟩
theorem countP_E {α : Type} [DecidableEq α] (E : Enc α) (x : α) : ∀ xs : List α, (xs.map E.py).countP (fun z => PyData.eqv z (E.py x)) = xs.count x
  | [] => rfl
  | y :: ys => by
    rw [List.map_cons, List.countP_cons, List.count_cons, countP_E E x ys, E.eqv]
    by_cases h : y = x
    · subst h; simp
    · simp [h]
section
variable {K : Kf} {μ : M} {k : DK}
theorem d_countE {α : Type} [DecidableEq α] (E : Enc α) (hn : E.n + 1 ≤ 64) {d e : Dv} {x : α} {xs : List α} (l : SqD μ d (xs.map E.dv)) (he : e = E.dv x := by rfl) (h : k (.int (xs.count x : Nat)) μ) : DMd K (rCountD K) d [e] μ k := fun u us H Q r du ds t => by
  subst he
  cases ds with
  | cons d1 ds =>
    cases ds
    obtain ⟨a, vs, rfl, _, _⟩ := l.rep r du
    refine ⟨a, _, E.py x, xs.map E.py, rfl, rfl, l.dp r du (toPys_map E xs), d1.dp (E.toPy x), E.list.shaped hn xs, E.shaped (by omega) x, ?_⟩
    rw [countP_E E x xs]
    exact tl_pure t h r (.int _)
theorem d_indexE {α : Type} [DecidableEq α] (E : Enc α) (hn : E.n + 1 ≤ 64) {d e : Dv} {x : α} {xs : List α} {j : Nat} (l : SqD μ d (xs.map E.dv)) (hj : xs[j]? = some x) (hm : ∀ (m : Nat) (z : α), m < j → xs[m]? = some z → z ≠ x) (he : e = E.dv x := by rfl) (h : k (.int (j : Nat)) μ) : DMd K (rIndexD K) d [e] μ k := fun u us H Q r du ds t => by
  subst he
  cases ds with
  | cons d1 ds =>
    cases ds
    obtain ⟨a, vs, rfl, _, _⟩ := l.rep r du
    refine ⟨a, _, E.py x, xs.map E.py, j, E.py x, rfl, rfl, l.dp r du (toPys_map E xs), d1.dp (E.toPy x), E.list.shaped hn xs, E.shaped (by omega) x, ?_, ?_, ?_, tl_pure t h r (.int _)⟩
    · rw [List.getElem?_map, hj]; rfl
    · rw [E.eqv]; simp
    · intro m z hm1 hz
      rw [List.getElem?_map] at hz
      cases e : xs[m]? with
      | none => rw [e] at hz; cases hz
      | some w =>
        rw [e] at hz
        cases hz
        rw [E.eqv]
        exact decide_eq_false (hm m w hm1 e)
end
section
variable {X : Cx} {W : WX} {KE : XD} {e o i : Expr} {A : List Stmt} {n : En} {μ : M} {k : DK} {P : Ed} {pos pos' p p1 p2 p3 : Pos} {x1 x2 : Str} {kl : Nat}
/-- o[i] = e, o a list that may change -/
theorem js_lput (h : JE X W KE e n μ fun y μ1 => JE X W KE o n μ1 fun d μ2 => JE X W KE i n μ2 fun z μ3 => ∃ a xs kk j, d = .obj a ∧ μ3 a = some (.lst xs) ∧ z = .int kk ∧ L2.ixN xs.length kk = some j ∧ P.nx n (updM μ3 a (.lst (xs.set j y))))
    (hg : PG X (.Subscript o i pos') (gSub (cE X o) (cE X i) rSetL) := by exact pg_sub peC peC set_list)
    (hs : swapsWithSole [.Subscript o i pos'] e pos.line X.env = pure false := by rfl) (hw : swappedStores [.Subscript o i pos'] e X.env = pure none := by rfl)
    (h1 : (assignEach [.Subscript o i pos'] X.env).map (·.2) = [assign (.Subscript o i pos') X.env] := by rfl) : JS X W KE (.Assign [.Subscript o i pos'] e pos) n μ P :=
  js_of (ps_asg peC hg hs hw h1) fun σ H D ev rp t q => by
    refine h σ H _ ev rp t fun u y H1 μ1 h1 s1 r1 d1 => ?_
    refine h1 σ H1 _ (ev.step s1) r1 (t.step s1) fun w d H2 μ2 h2 s2 r2 d2 => ?_
    refine h2 σ H2 _ (ev.step (s1.trans s2)) r2 (t.step (s1.trans s2)) fun v z H3 μ3 h3 s3 r3 d3 => ?_
    obtain ⟨a, xs, kk, j, rfl, ha, rfl, hj, hk⟩ := h3
    cases d2; cases d3
    obtain ⟨vs, e1, rr⟩ := r3 _ _ ha
    have s4 := Step.mut (H := H3) (o := .lst (vs.set j u)) (u := .lst (xs.set j y)) ha
    have sA := ((s1.trans s2).trans s3).trans s4
    refine ⟨a, vs, kk, j, rfl, rfl, e1, by rw [rr.length]; exact hj, q.nx _ _ _ _ hk (ev.step sA) sA (r3.put s4 ⟨_, upd_same, ?_⟩)⟩
    have dy := (d1.step (s2.trans s3)).step s4
    have : ∀ {vs : List V} {xs : List Dv} {j : Nat}, DReps X.K (updM μ3 a (.lst (xs))) H3 vs xs → True := fun _ => trivial
    have set : ∀ {μ : M} {H : Hp} {vs : List V} {xs : List Dv} {u : V} {y : Dv} (j : Nat), DReps X.K μ H vs xs → DRep X.K μ H u y → DReps X.K μ H (vs.set j u) (xs.set j y) := by
      intro μ H vs
      induction vs with
      | nil => intro xs u y j r d; cases r; exact .nil
      | cons v vs ih =>
        intro xs u y j r d
        cases r with
        | cons h t =>
          cases j with
          | zero => exact .cons d t
          | succ j => exact .cons h (ih j t d)
    exact set j (rr.step s4) dy
/-- for i, x in enumerate(xs) -/
theorem js_forE (i1 i2 : Nat) (c : Cok kl X W) (hi1 : X.N[i1]? = some x1) (hi2 : X.N[i2]? = some x2) (ow : PassesOwn (model X.prog X.w) X.A X.env X.xe) (hm : X.mg "enumerate" = none)
    (h : JE X W KE e n μ fun d μ1 => ∃ xs, SqD μ1 d xs ∧ ∃ Iv : Nat → En → M → Prop, Mid (Iv 0) n μ1 ∧ (∀ j n' μ', Iv j n' μ' → SqD μ' d xs) ∧
      (∀ j x e μ', xs[j]? = some x → Iv j e μ' → JB X W KE A ((e.set i1 (some (.int (j : Nat)))).set i2 (some x)) μ' { nx := Mid (Iv (j + 1)), ct := Mid (Iv (j + 1)), bk := P.nx, rt := P.rt }) ∧ ∀ e μ', Iv xs.length e μ' → ∀ n', LeE n' e → P.nx n' μ')
    (hl1 : Loc X.env.scope x1 := by first | exact Or.inl rfl | exact Or.inr rfl) (hl2 : Loc X.env.scope x2 := by first | exact Or.inl rfl | exact Or.inr rfl)
    (hf1 : X.fn x1 = true ∨ X.env.scope.names.lookup x1 = some .local := by first | exact .inl rfl | exact .inr rfl) (hf2 : X.fn x2 = true ∨ X.env.scope.names.lookup x2 = some .local := by first | exact .inl rfl | exact .inr rfl)
    {kk} (hg : PG X (.Tuple [.Name x1 p1, .Name x2 p2] kk p3) (gTup X.K 2 (gCons (gName i1) (gCons (gName i2) gNil))) := by exact pg_tup (by first | rfl | assumption) (pgs_cons (pg_name (by assumption) (by assumption) (by assumption) (by assumption)) (pgs_cons (pg_name (by assumption) (by assumption) (by assumption) (by assumption)) pgs_nil)))
    (hgl : Gl X "enumerate" := by rfl) (hse : starEach [e] X.env = [(false, eval e X.env)] := by rfl) (hs : ∀ x, foldedSetIterable (.Call (.Name "enumerate" p) [e] [] pos') X.env x = pure x := by intro _; rfl) :
    JS X W KE (.For (.Tuple [.Name x1 p1, .Name x2 p2] kk p3) (.Call (.Name "enumerate" p) [e] [] pos') A [] pos) n μ P :=
  js_of (ps_for ow c.calm (pi_enum hgl hm paC hse) hg pbC hs) fun σ H D ev rp t q => by
    have h' : JA X W KE [e] n μ fun ds μ1 => ∃ d, ds = [d] ∧ ∃ xs, SqD μ1 d xs ∧ ∃ Iv : Nat → En → M → Prop, Mid (Iv 0) n μ1 ∧ (∀ j n' μ', Iv j n' μ' → SqD μ' d xs) ∧
      (∀ j x e μ', xs[j]? = some x → Iv j e μ' → JB X W KE A ((e.set i1 (some (.int (j : Nat)))).set i2 (some x)) μ' { nx := Mid (Iv (j + 1)), ct := Mid (Iv (j + 1)), bk := P.nx, rt := P.rt }) ∧ ∀ e μ', Iv xs.length e μ' → ∀ n', LeE n' e → P.nx n' μ' :=
      ja_one (h.mono fun d μ1 z => ⟨d, rfl, z⟩) (by rw [hse]; rfl)
    refine h' σ H _ ev rp t fun vs ds H1 μ1 h1 s1 r1 dd => ?_
    obtain ⟨d, rfl, xs, ok1, Iv, h0, hok, hturn, hend⟩ := h1
    cases dd with
    | cons d1 dn =>
    cases dn
    obtain ⟨a, vs1, rfl, ha1, _⟩ := ok1.rep r1 d1
    refine ⟨a, vs1, rfl, ha1, ?_⟩
    refine ⟨fun j m σ' H' => m = xs.length - j ∧ j ≤ xs.length ∧ ∃ n' μ', Mid (Iv j) n' μ' ∧ Env X.K μ' H' σ' n' ∧ Step μ H μ' H' ∧ Rep X.K μ' H' ∧ DRep X.K μ' H' (.ref a) d, ⟨xs.length, by simp, Nat.zero_le _, n, μ1, h0, ev.step s1, s1, r1, d1⟩, ?_⟩
    rintro j m σ' H' ⟨rfl, hj, n', μ', ⟨e2, le2, iv⟩, ev', st', rp', dr'⟩
    have ok' := hok j e2 μ' iv
    obtain ⟨a', vs', ea, ha', ra'⟩ := ok'.rep rp' dr'
    cases ea
    by_cases hlt : j < xs.length
    · obtain ⟨x, hx⟩ : ∃ x, xs[j]? = some x := ⟨_, List.getElem?_eq_getElem hlt⟩
      obtain ⟨v, hv, dv⟩ := ra'.get hx
      refine .inr ⟨⟨vs', v, ha', hv⟩, fun σ2 H2 => ∃ n2 μ2, Mid (Iv (j + 1)) n2 μ2 ∧ Env X.K μ2 H2 σ2 n2 ∧ Step μ H μ2 H2 ∧ Rep X.K μ2 H2 ∧ DRep X.K μ2 H2 (.ref a) d, fun σ2 H2 z => ⟨xs.length - (j + 1), by omega, rfl, hlt, z⟩, fun w H2 yv => ?_⟩
      obtain ⟨T, x', rfl, hT, rfl, hx'⟩ := yv
      have e' : x' = v := by have := hx' vs' ha'; rw [hv] at this; exact (Option.some.inj this).symm
      subst e'
      have sN : Step μ' H' μ' (upd H' T (.tup [.int (j : Nat), x'])) := Step.new hT
      refine ⟨T, [.int (j : Nat), x'], rfl, SqT.of upd_same, rfl, _, _, rfl, _, _, rfl, rfl, ?_⟩
      have ev2 : Env X.K μ' (upd H' T (.tup [.int (j : Nat), x'])) ((σ'.set i1 (some (.int (j : Nat)))).set i2 (some x')) ((e2.set i1 (some (.int (j : Nat)))).set i2 (some x)) :=
        (((ev'.le le2).step sN).set (.int _) i1).set (dv.step sN) i2
      refine hturn j x e2 μ' hx iv _ _ _ ev2 (rp'.new hT) (t.step (st'.trans sN)) ⟨fun σ2 e3 H2 μ2 a1 b1 c1 d1 => ?_, q.rt.step (st'.trans sN), fun σ2 e3 H2 μ2 a1 b1 c1 d1 => ?_, fun σ2 e3 H2 μ2 a1 b1 c1 d1 => ?_⟩
      · exact ⟨e3, μ2, a1, b1, (st'.trans sN).trans c1, d1, (dr'.step sN).step c1⟩
      · exact q.nx _ _ _ _ a1 b1 ((st'.trans sN).trans c1) d1
      · exact ⟨e3, μ2, a1, b1, (st'.trans sN).trans c1, d1, (dr'.step sN).step c1⟩
    · have ej : j = xs.length := by omega
      subst ej
      exact .inl ⟨⟨vs', ha', by rw [ra'.length]; exact Nat.le_refl _⟩, q.nx _ _ _ _ (hend e2 μ' iv n' le2) ev' st' rp'⟩
end
end DL

/-! ## a sign n times -/
namespace DL
open PySem PySem.Spec L2
def repS (c : Nat) (n : Nat) : Str := ⟨(List.replicate n c).toArray⟩
theorem repS_len (c n : Nat) : (repS c n).length = n := by
  show (List.replicate n c).toArray.size = n
  simp
theorem fold_rep (c : Nat) : ∀ (n : Nat) (acc : List Nat), (List.replicate n (#[c] : Array Nat)).foldl (· ++ ·) acc.toArray = (acc ++ List.replicate n c).toArray
  | 0, acc => by simp
  | n + 1, acc => by
    rw [List.replicate_succ, List.foldl_cons]
    have e : acc.toArray ++ #[c] = (acc ++ [c]).toArray := by simp
    rw [e, fold_rep c n (acc ++ [c]), List.append_assoc]
    rfl
def rMulSg : R2 := fun x y H Q => ∃ (c : Nat) (n : Int), x = .str ⟨#[c]⟩ ∧ y = .int n ∧ 0 ≤ n ∧ n ≤ 100000 ∧ Q (.str (repS c n.toNat)) H
theorem op_mulSg {X : Cx} : OpR X (binaryOp .Mult) rMulSg := by
  intro pins s σ H x y v u Q I rx ry h
  obtain ⟨c, n, rfl, rfl, h0, h1, q⟩ := h
  obtain ⟨t, rfl⟩ := rx
  obtain ⟨t2, rfl⟩ := ry
  have hl : (⟨#[c]⟩ : Str).length = 1 := rfl
  refine PySem.P.mul_str (by rw [decide_eq_false (by omega), decide_eq_false (by omega)]; rfl) (fun h2 h3 => ?_) (fun h2 h3 => ?_) ?_
  · rw [hl]
    have : 1 ≤ ((2 ^ 63 - 1 : Int)) / n := (Int.le_ediv_iff_mul_le (by omega)).mpr (by omega)
    omega
  · rw [hl, Nat.one_mul]
    unfold Builtin.Str.tooLong
    have := sizeLine_eq
    simp
    omega
  · by_cases z : n < 1
    · rw [if_pos z]
      have e : n = 0 := by omega
      subst e
      exact ⟨by decide, .str (repS c 0), H, I.tok _, ⟨_, rfl⟩, q⟩
    · rw [if_neg z]
      by_cases z1 : n = 1
      · subst z1
        rw [if_pos (by rfl)]
        exact ⟨.str (repS c 1), H, I, ⟨_, rfl⟩, q⟩
      · rw [if_neg (by rw [hl]; simp; omega)]
        have e := fold_rep c n.toNat []
        rw [List.nil_append] at e
        show (⟨(List.replicate n.toNat (#[c] : Array Nat)).foldl (· ++ ·) #[]⟩ : Str).length ≤ sizeLine ∧ _
        rw [show ((List.replicate n.toNat (#[c] : Array Nat)).foldl (· ++ ·) #[]) = (List.replicate n.toNat c).toArray from e]
        refine ⟨?_, .str (repS c n.toNat), H, I.tok _, ⟨_, rfl⟩, q⟩
        show (repS c n.toNat).length ≤ sizeLine
        rw [repS_len, sizeLine_eq]
        omega
section
variable {X : Cx} {W : WX} {KE : XD} {a b : Expr} {n : En} {μ : M} {k : DK} {pos : Pos} {K : Kf}
theorem je_mulSg (h : JE X W KE a n μ fun x μ1 => JE X W KE b n μ1 fun y μ2 => DOp X.K rMulSg x y μ2 k) : JE X W KE (.BinOp a .Mult b pos) n μ k := je_bin op_mulSg h
theorem d_mulSg {c : Nat} {i : Int} (h0 : 0 ≤ i) (h1 : i ≤ 100000) (h : k (.str (repS c i.toNat)) μ) : DOp K rMulSg (.str ⟨#[c]⟩) (.int i) μ k := fun u v H Q r du dv t => by
  cases du; cases dv
  exact ⟨c, i, rfl, rfl, h0, h1, tl_pure t h r (.str _)⟩
end
theorem swaps_list {es : List Expr} {p : Pos} {t : Option Expr} {l : Nat} {env : PySem.Env} : swapsWith (.List es p) t l env = pure false := rfl
theorem swaps_bin {a b : Expr} {op : Operator} {p : Pos} {t : Option Expr} {l : Nat} {env : PySem.Env} : swapsWith (.BinOp a op b p) t l env = pure false := rfl
end DL

/-! ## exceptions with their own __init__ -/
namespace DL
open PySem PySem.Spec L2
/-- what is known of GateError.__init__ -/
structure GeI (K : Kf) (mg : Str → Option Value) (GE : Addr) : Prop where
  g : mg "GateError" = some (.ref GE)
  s : PySem.W.specialIn K (.ref GE) "__getattribute__" = some (some (.builtin "type.__getattribute__"))
  r : PySem.W.readsIn K GE (.type "type") = true
  f : PySem.W.findCls K (.ref GE) (.type "type") "__init__" = some (.val (.builtin "ValueError.__init__"))
/-- an exception class with its own __init__ f -/
structure XIn (K : Kf) (mg : Str → Option Value) (x : Str) (C f : Addr) : Prop where
  o : OexC K C
  g : mg x = some (.ref C)
  i : PySem.W.findIn K (.ref C) "__init__" = some (some (.ref f))
  t : PySem.W.typeIn K (.ref f) = some (.type "function")
section
variable {X : Cx} {o e : Expr} {es : List Expr} {to te : TE} {ta : TA} {f : Str} {p p' p1 p2 pos : Pos}
theorem pe_geinit {GE : Addr} {pl : Sem Bool} (G : GeI X.K X.mg GE) (hg : Gl X "GateError") (ha : PA X (e :: es) ta)
    (hc : eval (.Call (.Attribute (.Name "GateError" p1) "__init__" p2) (e :: es) [] pos) X.env = (do
      let ov ← eval (.Name "GateError" p1) X.env
      standAt p2.atName
      let (f, first) ← holding [ov] (getMethod ov "__init__" pl)
      callWith pos f first (backTo pos (starEach (e :: es) X.env)) (backToKw pos (keywordEach [] X.env))) := by rfl)
    (he : starEach (e :: es) X.env = (false, eval e X.env) :: starEach es X.env := by rfl) (hpl : (backTo pos (starEach es X.env)).any (·.1) = false := by rfl) :
    PE X (.Call (.Attribute (.Name "GateError" p1) "__init__" p2) (e :: es) [] pos) (tVeI X.K ta) := by
  refine ⟨fun pins s σ H Q I h => ?_⟩
  refine PySem.W.methodCall_KW (ld_glob I hg G.g ?_ (by decide)) hc
  refine PySem.W.method_cls I.kIn G.s (PySem.W.cls_value I.kIn G.r G.f (by decide +kernel) ?_)
  show wpAny _ _ (callWith pos (Value.builtin "ValueError.__init__") [] (backTo pos (starEach (e :: es) X.env)) []) _ _ _
  refine PyProof.Rows.callWith_method1 (thn (ha.run pos pins _ σ H _ (I.tok _) h) fun us s1 ⟨vs, H1, I1, r1, a, C, ws, ev, hl, T, ea, q⟩ => ?_) he hpl
  subst ev
  cases r1 with
  | @cons _ u0 _ ur ra rw' =>
    obtain rfl : u0 = Value.ref a := ra
    have hlen : ur.length ≤ sizeLine := by
      rw [← Paired.length rw', sizeLine_eq]
      omega
    exact oinit_ok T I1 ea hlen fun s' J => ⟨.non, H1, J, rfl, q⟩
end
/-- the promise of an __init__ that stores one field -/
def sp1 (fld : Str) (C : Addr) : Sp := fun vs H Q _ => ∃ (a : Addr) (v : V), vs = [.ref a, v] ∧ H a = some (exo a C none) ∧ ∀ dx, H dx = none → dx ≠ a → Q .non (upd (upd H dx (exd dx [(fld, v)])) a (exo a C (some dx)))
/-- two fields -/
def sp2 (f1 f2 : Str) (C : Addr) : Sp := fun vs H Q _ => ∃ (a : Addr) (v w : V), vs = [.ref a, v, w] ∧ H a = some (exo a C none) ∧ ∀ dx, H dx = none → dx ≠ a → Q .non (upd (upd (upd H dx (exd dx [(f1, v)])) a (exo a C (some dx))) dx (exd dx [(f2, w), (f1, v)]))
structure DExI (P : Program) (w : World) (K : Kf) (mg : Str → Option Value) (base : Heap) (k : Nat) (x : Str) (C : Addr) (sp : Sp) : Prop where
  ex : ∃ (f : Addr) (fd : FuncData) (ps : List Str), FnOk P w K mg base (L2.CX P w) k f fd ps sp ∧ Binds K fd ps [] ∧ XIn K mg x C f
theorem passF {P : Program} {w : World} {X : Cx} : Passes (L2.CX P w) X (fun _ _ _ => False) := fun _ _ _ _ _ _ _ h => by
  obtain ⟨_, _, _, _, _, _, _, _, _, _, _, _, z⟩ := h
  exact z.elim
theorem exo_gone {H1 : Hp} {a dx C : Addr} {o1 o2 o3 o4 : HO} (ha : H1 a = none) (ne : dx ≠ a) : upd (del (upd (upd (upd H1 a o1) dx o2) a o3) a) dx o4 = upd H1 dx o4 := by
  funext b
  by_cases z : b = dx
  · rw [z, upd_same, upd_same]
  · rw [upd_ne z, upd_ne z]
    by_cases y : b = a
    · rw [y, del_same, ha]
    · rw [del_ne y, upd_ne y, upd_ne z, upd_ne y]
theorem exo_gone2 {H1 : Hp} {a dx C : Addr} {o1 o2 o3 o4 o5 : HO} (ha : H1 a = none) (ne : dx ≠ a) : upd (del (upd (upd (upd (upd H1 a o1) dx o2) a o3) dx o5) a) dx o4 = upd H1 dx o4 := by
  funext b
  by_cases z : b = dx
  · rw [z, upd_same, upd_same]
  · rw [upd_ne z, upd_ne z]
    by_cases y : b = a
    · rw [y, del_same, ha]
    · rw [del_ne y, upd_ne z, upd_ne y, upd_ne z, upd_ne y]
section
variable {X : Cx} {W : WX} {KE : XD} {e e1 e2 : Expr} {es : List Expr} {n : En} {μ : M} {k : DK} {P : Ed} {p pos pos' : Pos} {x f fld f1 f2 : Str} {kl j : Nat} {C : Addr}
theorem js_raiseI1 (c : Cok kl X W) (F : DExI X.prog X.w X.K X.mg X.base j x C (sp1 fld C)) (hj : j + 1 ≤ kl) (h : JE X W KE e n μ fun d μ1 => KE (.ref C) [(fld, d)] n μ1) (hg : Gl X x := by rfl)
    (hdb : (x == ("__debug__" : Str)) = false := by decide) (hs : starEach [e] X.env = (false, eval e X.env) :: starEach [] X.env := by rfl) (hpl : (backTo pos (starEach [] X.env)).any (·.1) = false := by rfl) : JS X W KE (.Raise (some (.Call (.Name x p) [e] [] pos)) none pos') n μ P := by
  obtain ⟨fI, fd, ps, F1, hb, T⟩ := F.ex
  refine js_of (ps_raise c.calm c.tk (pmk_oex T.o T.i T.t F1 (c.room.mono hj) hb .nil passF hg T.g paC hdb hs hpl)) fun σ H D ev rp t q => ?_
  have h' : JA X W KE [e] n μ fun ds μ1 => ∃ d, ds = [d] ∧ KE (.ref C) [(fld, d)] n μ1 := ja_one (h.mono fun d μ1 z => ⟨d, rfl, z⟩) hs
  refine h' σ H _ ev rp t fun vs ds H1 μ1 h1 s1 r1 dd => ?_
  obtain ⟨d, rfl, hk⟩ := h1
  cases dd with
  | cons d1 dn =>
    cases dn
    refine ⟨by simp, fun a ha => ⟨a, _, rfl, upd_same, fun dx hdx ne => ⟨rfl, dx, _, upd_same, (upd_ne ne).trans upd_same, by rw [upd_ne ne] at hdx; exact hdx, ?_⟩⟩⟩
    have hdx1 : H1 dx = none := by rw [upd_ne ne] at hdx; exact hdx
    rw [exo_gone (C := C) ha ne]
    have sN : ∀ o, Step μ1 H1 μ1 (upd H1 dx o) := fun o => Step.new hdx1
    exact t (.ref C) _ (some dx) σ n _ μ1 hk (ev.step (s1.trans (sN _))) (s1.trans (sN _)) (r1.new hdx1) ⟨_, upd_same, r1.free hdx1, .cons (d1.step (sN _)) .nil⟩
theorem js_raiseI2 (c : Cok kl X W) (F : DExI X.prog X.w X.K X.mg X.base j x C (sp2 f1 f2 C)) (hj : j + 1 ≤ kl) (h : JE X W KE e1 n μ fun d μ1 => JE X W KE e2 n μ1 fun d2 μ2 => KE (.ref C) [(f2, d2), (f1, d)] n μ2) (hg : Gl X x := by rfl)
    (hdb : (x == ("__debug__" : Str)) = false := by decide) (hs : starEach [e1, e2] X.env = (false, eval e1 X.env) :: starEach [e2] X.env := by rfl) (hs2 : starEach [e2] X.env = (false, eval e2 X.env) :: starEach [] X.env := by rfl) (hpl : (backTo pos (starEach [e2] X.env)).any (·.1) = false := by rfl) : JS X W KE (.Raise (some (.Call (.Name x p) [e1, e2] [] pos)) none pos') n μ P := by
  obtain ⟨fI, fd, ps, F1, hb, T⟩ := F.ex
  refine js_of (ps_raise c.calm c.tk (pmk_oex T.o T.i T.t F1 (c.room.mono hj) hb .nil passF hg T.g paC hdb hs hpl)) fun σ H D ev rp t q => ?_
  have h' : JA X W KE [e1, e2] n μ fun ds μ2 => ∃ d d2, ds = [d, d2] ∧ KE (.ref C) [(f2, d2), (f1, d)] n μ2 := ja_cons (h.mono fun d μ1 z => ja_one (z.mono fun d2 μ2 z2 => ⟨d, d2, rfl, z2⟩) hs2) hs
  refine h' σ H _ ev rp t fun vs ds H1 μ1 h1 s1 r1 dd => ?_
  obtain ⟨d, d2, rfl, hk⟩ := h1
  cases dd with
  | cons d1 dn =>
    cases dn with
    | cons d3 dn =>
    cases dn
    refine ⟨by simp, fun a ha => ⟨a, _, _, rfl, upd_same, fun dx hdx ne => ⟨rfl, dx, _, (upd_ne ne.symm).trans upd_same, upd_same, by rw [upd_ne ne] at hdx; exact hdx, ?_⟩⟩⟩
    have hdx1 : H1 dx = none := by rw [upd_ne ne] at hdx; exact hdx
    rw [exo_gone2 (C := C) ha ne]
    have sN : ∀ o, Step μ1 H1 μ1 (upd H1 dx o) := fun o => Step.new hdx1
    exact t (.ref C) _ (some dx) σ n _ μ1 hk (ev.step (s1.trans (sN _))) (s1.trans (sN _)) (r1.new hdx1) ⟨_, upd_same, r1.free hdx1, .cons (d3.step (sN _)) (.cons (d1.step (sN _)) .nil)⟩
/-- the attribute of an exception -/
theorem pe_xfld {te : TE} (he : PE X e te) (hb : attributeBase e f X.env (eval e X.env) = eval e X.env) : PE X (.Attribute e f pos) (fun σ H Q => te σ H fun x H1 => ∃ (z C dd : Addr) (vs : List (Str × V)) (v : V), x = .ref z ∧ H1 z = some (ExD (.ref C) (some dd) z) ∧ H1 dd = some (.xd vs) ∧ ExcC X.K C ∧ PySem.W.findIn X.K (.ref C) f = some none ∧ vs.lookup f = some v ∧ Q v H1) := by
  refine ⟨fun pins s σ H Q I h => ?_⟩
  refine attr_of hb (thn (he.run pins s σ H _ I h) fun u s1 hh => ?_)
  obtain ⟨x, H1, I1, rx, z, C, dd, vs, v, ex, hz, hd, E, nf, hl, q⟩ := hh
  subst ex
  obtain rfl : u = Value.ref z := rx
  obtain ⟨⟨oe, ws, ge, zc, dat⟩, _, _⟩ := I1.hok z _ hz
  obtain ⟨mA, hns, hr⟩ := (show ∃ mA, s1.heap.Ns1 dd mA ∧ _ from I1.hok dd _ hd)
  obtain ⟨od, ho, hlk⟩ := lookIn_ns hns
  obtain ⟨w, hw, rw⟩ := RelO.some_of (v := v) (o := mA f) (by rw [← hl]; exact hr f)
  have J : PySem.W.InstAt s1.heap z oe C (some od) := ⟨ge, zc.1, by unfold PySem.W.notCls; rw [dat] <;> rfl, by rw [zc.2]; exact ho⟩
  exact HandSPX.exc_get I1.kIn J E.hg E.hk E.hs (PySem.W.findObj_own E.hd nf rfl (by rw [hlk, hw])) (handed_of rw) ⟨v, H1, I1.tok _, rw, q⟩
theorem je_xfld (h : JE X W KE e n μ fun d μ1 => ∃ C fs v, d = .exc C fs ∧ ExcC X.K C ∧ PySem.W.findIn X.K (.ref C) f = some none ∧ fs.lookup f = some v ∧ k v μ1) (hb : attributeBase e f X.env (eval e X.env) = eval e X.env := by rfl) : JE X W KE (.Attribute e f pos) n μ k :=
  je_of (pe_xfld peC hb) fun σ H Q ev rp t q => by
    refine h σ H _ ev rp t fun u x H1 μ1 h1 s1 r1 d1 => ?_
    obtain ⟨C, fs, v, rfl, E, nf, hl, hk⟩ := h1
    cases d1 with
    | exc0 hz nz => cases hl
    | exc1 hz nz hd nd rr =>
      obtain ⟨w, e1, e2⟩ := rr.get hl
      exact ⟨_, C, _, _, w, rfl, hz, hd, E, nf, e1, q _ _ _ _ hk s1 r1 e2⟩
end
end DL

/-! ## max(xs, default=d) -/
namespace DL
open PySem PySem.Spec L2 PyProof.Rows
theorem args_maxd (a d : Value) : argsOk "max" ⟨[a], [(Str.ofString "default", d)]⟩ := by unfold argsOk; kernel_rfl
section
variable {prog : Program} {w : World} {A : Around} {R : Result → Shared → Prop} {I : Addr} {fp wr : List Addr} {n : Nat} {Pq : Nat → Value → Prop} {Sq : Nat → Heap → Prop} {d : Value}
/-- what the loop holds behind j turns -/
def HeldD (bt : Nat → Nat → Bool) (Pq : Nat → Value → Prop) (j : Nat) (old : Array Value) : Prop := (j = 0 ∧ old = #[]) ∨ ∃ i vb, j = i + 1 ∧ old = #[vb, vb] ∧ Pq (argBest bt i) vb
theorem maxd_loop (W : Walks prog w A.in1 I fp wr n Pq Sq) (bt : Nat → Nat → Bool) (hc : CmpOf prog w A.in1 .Gt Pq bt) (S : Addr) (hS : S ∉ fp) :
    ∀ (k j : Nat) (s : Shared) (old : Array Value) (c : Nat), n - j = k → j ≤ n → Sq j s.heap → HeldD bt Pq j old → s.heap.get? S = some { cls := .type "list", dict := none, data := .seq old c, slots := #[] } →
    (∀ v h' tk, (n = 0 → v = d) → (0 < n → Pq (argBest bt (n - 1)) v) → (∀ b o, b ∉ wr → b ≠ S → s.heap.get? b = some o → h'.get? b = some o) → R (.ok (.ret v)) { s with heap := h', toks := tk }) →
    codeAny (model prog w) A (.builtin "max.loop" ⟨[.ref I, .none, .ref S], [(Str.ofString "default", d)]⟩) R s := by
  have nm : (toString "max" ++ toString ".loop" : String) = "max.loop" := by decide
  have nw : S ∉ wr := fun z => hS (W.sub _ z)
  intro k
  induction k with
  | zero =>
    intro j s old c ek lj st hd gS out
    obtain rfl : j = n := by omega
    apply codeAny_builtin F.entry_max_loop
    rw [Around.under_plainId F.plain_max_loop _]
    show wpAny _ A.in1 (seqItems? (.ref S) >>= _) _ _ s
    apply wpAny_bind
    refine wpAny_seqItems gS rfl ?_
    show wpAny _ A.in1 (tryCatch (pyNext (.ref I)) _ >>= _) _ _ s
    apply wpAny_bind
    apply wpAny_tryCatch
    refine W.done s _ _ st fun h1 tk k1 => ?_
    rcases hd with ⟨rfl, rfl⟩ | ⟨i, vb, rfl, rfl, pv⟩
    · refine wpAny_bind (wpAny_rule (wpAny_pure ?_))
      exact out d _ tk (fun _ => rfl) (fun z => absurd z (Nat.lt_irrefl _)) fun b o hb _ e => k1 b o hb e
    · show wpAny _ A.in1 (updateSeq S (fun _ => #[]) >>= _) _ _ _
      apply wpAny_bind
      refine wpAny_updateSeq (k1 S _ nw gS) rfl (wpAny_bind (wpAny_letGo (wpAny_pure ?_)))
      refine out vb _ tk (fun z => absurd z (Nat.succ_ne_zero _)) (fun _ => pv) fun b o hb hne e => ?_
      rw [Heap.get?_update_other _ _ (Ne.symm hne)]
      exact k1 b o hb e
  | succ k ih =>
    intro j s old c ek lj st hd gS out
    have jn : j < n := by omega
    apply codeAny_builtin F.entry_max_loop
    rw [Around.under_plainId F.plain_max_loop _]
    show wpAny _ A.in1 (seqItems? (.ref S) >>= _) _ _ s
    apply wpAny_bind
    refine wpAny_seqItems gS rfl ?_
    show wpAny _ A.in1 (tryCatch (pyNext (.ref I)) _ >>= _) _ _ s
    apply wpAny_bind
    apply wpAny_tryCatch
    refine W.item j s _ _ jn st fun v h1 tk pv st1 k1 => ?_
    have gS1 := k1 S _ nw gS
    have put : ∀ (f : Array Value → Array Value) (h2 : Heap), h2 = h1.update S (Obj.mapSeq f) → ∀ b ∈ fp, ∀ o, h1.get? b = some o → h2.get? b = some o := fun f h2 e b hb o q => by
      subst e
      rw [Heap.get?_update_other _ _ (fun z : S = b => hS (z ▸ hb))]
      exact q
    rcases hd with ⟨rfl, rfl⟩ | ⟨i, vb, rfl, rfl, pb⟩
    · show wpAny _ A.in1 (updateSeq S (fun _ => #[v, v]) >>= _) _ _ _
      apply wpAny_bind
      refine wpAny_updateSeq gS1 rfl ?_
      rw [nm]
      refine wpAny_pure ⟨plainId_quiet F.plain_max_loop _, ih 1 _ #[v, v] _ (by omega) jn (W.frame _ _ _ st1 fun b hb o q => put _ _ rfl b hb o q) (.inr ⟨0, v, rfl, rfl, pv⟩) (Heap.get?_update_self _ gS1 rfl) fun v' h2 tk2 z0 z1 k2 => ?_⟩
      exact out v' h2 tk2 z0 z1 fun b o hb hne e => k2 b o hb hne (by rw [Heap.get?_update_other _ _ (Ne.symm hne)]; exact k1 b o hb e)
    · show wpAny _ A.in1 (tryCatch (holding [v, v] (richCompare .Gt v vb >>= _)) _ >>= _) _ _ _
      apply wpAny_bind
      refine wpAny_tryCatch (wpAny_holding (wpAny_bind (hc (i + 1) (argBest bt i) v vb _ _ _ pv pb ?_)))
      refine wpAny_bind (wpAny_holding (wpAny_truthy_bool (wpAny_bind (wpAny_letGo (wpAny_pure ?_)))))
      cases q : bt (i + 1) (argBest bt i) with
      | true =>
        rw [if_pos rfl]
        apply wpAny_bind
        refine wpAny_updateSeq gS1 rfl (wpAny_bind (wpAny_letGo ?_))
        rw [nm]
        refine wpAny_pure ⟨plainId_quiet F.plain_max_loop _, ih (i + 2) _ #[v, v] _ (by omega) jn (W.frame _ _ _ st1 fun b hb o q => put _ _ rfl b hb o q) (.inr ⟨i + 1, v, rfl, rfl, by simp only [argBest, q, if_true]; exact pv⟩) (Heap.get?_update_self _ gS1 rfl) fun v' h2 tk2 z0 z1 k2 => ?_⟩
        exact out v' h2 tk2 z0 z1 fun b o hb hne e => k2 b o hb hne (by rw [Heap.get?_update_other _ _ (Ne.symm hne)]; exact k1 b o hb e)
      | false =>
        rw [if_neg Bool.false_ne_true]
        refine wpAny_bind (wpAny_letGo ?_)
        rw [nm]
        refine wpAny_pure ⟨plainId_quiet F.plain_max_loop _, ih (i + 2) _ #[vb, vb] c (by omega) jn st1 (.inr ⟨i + 1, vb, rfl, rfl, by simp only [argBest, q]; exact pb⟩) gS1 fun v' h2 tk2 z0 z1 k2 => ?_⟩
        exact out v' h2 tk2 z0 z1 fun b o hb hne e => k2 b o hb hne (k1 b o hb e)
end
section
variable {prog : Program} {w : World} {A : Around} {E : Value → Shared → Prop} {s : Shared} {d : Value}
theorem maxd_go {x : Value} {Q : Value → Shared → Prop} (nm : (toString "max" ++ toString ".loop" : String) = "max.loop")
    (h : wpAny (model prog w) A.in1 (pyIter x) (fun it s2 => ∃ I fp wr n Pq Sq bt, it = .ref I ∧ Walks prog w A.in1 I fp wr n Pq Sq ∧ Sq 0 s2.heap ∧ (∀ b ∈ fp, b < s2.heap.objs.size) ∧ CmpOf prog w A.in1 .Gt Pq bt ∧
      ∀ v h' tk, (n = 0 → v = d) → (0 < n → Pq (argBest bt (n - 1)) v) → (∀ b o, b ∉ wr → s2.heap.get? b = some o → h'.get? b = some o) → Q v { s2 with heap := h', toks := tk }) E s) :
    wpAny (model prog w) A.in1 (Builtin.«max» ⟨[x], [(Str.ofString "default", d)]⟩) (fun fin s' => match fin with
      | .done f => (match (Except.ok f : Result) with | .ok (.ret v) => Q v s' | .ok _ => False | .error e => E e s')
      | .again c' => c'.quiet = true ∧ codeAny (model prog w) A c' (fun r s' => match r with | .ok (.ret v) => Q v s' | .ok _ => False | .error e => E e s') s') E s := by
  show wpAny _ A.in1 (Builtin.Builtins.bindParams "max" ["key", "default"] 0 ⟨[], [(Str.ofString "default", d)]⟩ >>= _) _ _ s
  refine wpAny_bind (wpAny_of_eq (show Builtin.Builtins.bindParams "max" ["key", "default"] 0 ⟨[], [(Str.ofString "default", d)]⟩ = pure [none, some d] from by kernel_rfl) ?_)
  refine wpAny_bind (wpAny_pure (wpAny_bind (wpAny_mono h (fun it s2 h2 => ?_) fun _ _ e => e)))
  obtain ⟨I, fp, wr, n, Pq, Sq, bt, rfl, W, st, hfp, hc, out⟩ := h2
  refine wpAny_bind (wpAny_newObj_type ?_)
  rw [nm]
  refine wpAny_pure ⟨plainId_quiet F.plain_max_loop _, maxd_loop W bt hc s2.heap.objs.size (fun z => Nat.lt_irrefl _ (hfp _ z)) n 0 _ #[] _ rfl (Nat.zero_le _) (W.frame _ _ _ st fun b _ o e => Heap.get?_push_of_some _ e) (.inl ⟨rfl, rfl⟩) (Heap.get?_push_size _ rfl) fun v h' tk z0 z1 k => ?_⟩
  exact out v h' tk z0 z1 fun b o hb e => k b o hb (Nat.ne_of_lt (Heap.lt_size e)) (Heap.get?_push_of_some _ e)
theorem call_maxd {x : Value} {Q : Value → Shared → Prop}
    (h : wpAny (model prog w) A.in1 (pyIter x) (fun it s2 => ∃ I fp wr n Pq Sq bt, it = .ref I ∧ Walks prog w A.in1 I fp wr n Pq Sq ∧ Sq 0 s2.heap ∧ (∀ b ∈ fp, b < s2.heap.objs.size) ∧ CmpOf prog w A.in1 .Gt Pq bt ∧
      ∀ v h' tk, (n = 0 → v = d) → (0 < n → Pq (argBest bt (n - 1)) v) → (∀ b o, b ∉ wr → s2.heap.get? b = some o → h'.get? b = some o) → Q v { s2 with heap := h', toks := tk }) E s) :
    wpAny (model prog w) A (call (.builtin "max") [x] [(Str.ofString "default", d)]) Q E s := by
  have nm : (toString "max" ++ toString ".loop" : String) = "max.loop" := by decide
  apply wpAny_call
  apply codeAny_call_builtin F.plain_max F.entry_max
  simp only [checkBuiltinCall, F.kind_max]
  have ok := args_maxd x d
  unfold argsOk at ok
  cases sg : Manifest.signature? "max" with
  | none => exact wpAny_pure (maxd_go nm h)
  | some g =>
    rw [sg] at ok
    show wpAny _ A.in1 (Bind.checkArgs "max" g ⟨[x], [(Str.ofString "default", d)]⟩) _ _ s
    rw [show Bind.checkArgs "max" g ⟨[x], [(Str.ofString "default", d)]⟩ = pure () from ok]
    exact wpAny_pure (maxd_go nm h)
end
end DL
namespace DL
open PySem PySem.Spec L2
def rMaxDf (K : Kf) : List V → List V → Hp → VK → Prop := fun xs zs H Q => ∃ (a : Addr) (ns : List Int) (d : Int), xs = [.ref a] ∧ zs = [.int d] ∧ SqL K H a (ns.map V.int) ∧ ∀ m, (ns = [] → m = d) → (ns ≠ [] → m ∈ ns ∧ ∀ y ∈ ns, y ≤ m) → Q (.int m) H
theorem call_maxDf {X : Cx} (hc : X.calm = true) : CallRK X (.builtin "max") [Str.ofString "default"] (rMaxDf X.K) := by
  intro pins s σ H xs zs us ws Q I r rz h
  obtain ⟨a, ns, d, rfl, rfl, hs, q⟩ := h
  obtain ⟨its, rv, hl0, _⟩ := I.list hs
  rw [Vals.ref1 r]
  cases rz with
  | cons rd rn =>
    cases rn
    obtain ⟨td, rfl⟩ := rd
    have hl := hl0.isList
    have hi := rv.ints
    obtain ⟨zs, e⟩ := hi.allInts.items
    have hn : numsOf (PySem.intItems zs).toList = ns := by rw [← e]; exact hi.numsOf
    rw [nums_intItems] at hn
    subst hn
    rw [e] at hl
    show wpAny _ _ (call (.builtin "max") [.ref a] [(Str.ofString "default", Value.int d td)]) _ _ _
    refine call_maxd (PySem.iter_intList hl fun s2 e2 st hfp hlI => ?_)
    subst e2
    refine ⟨_, _, _, _, _, _, _, rfl, Walks.list (A := X.A.in1) (I.ok.hd hc) _ a hlI (PySem.intItems zs), st, hfp, CmpOf.ints_gt (PySem.numAt zs) (fun _ _ => PySem.intItems_at), fun v h' tk z0 z1 k => ?_⟩
    have kept := PySem.old_kept k
    have hsz : (PySem.intItems zs).size = zs.size := by simp [PySem.intItems]
    by_cases z : zs.size = 0
    · have hv := z0 (by rw [hsz]; exact z)
      subst hv
      refine ⟨.int d, H, I.kept kept, ⟨_, rfl⟩, q d (fun _ => rfl) fun y => absurd ?_ y⟩
      rw [List.map_eq_nil_iff]
      exact List.eq_nil_of_length_eq_zero (by simpa using z)
    · have hv := z1 (by rw [hsz]; omega)
      obtain ⟨t, rfl⟩ := PySem.intItems_at hv
      obtain ⟨h1, h2⟩ := argBest_gt (PySem.numAt zs) ((PySem.intItems zs).size - 1)
      refine ⟨.int _, H, I.kept kept, ⟨_, rfl⟩, q _ (fun y => absurd (congrArg List.length y) (by simp; simpa using z)) fun _ => ⟨?_, fun y hy => ?_⟩⟩
      · rw [PySem.numAt_eq]; exact PySem.getD_mem (by rw [List.length_map, Array.length_toList]; omega)
      · obtain ⟨j, hj, rfl⟩ := PySem.mem_getD hy
        rw [List.length_map, Array.length_toList] at hj
        rw [← PySem.numAt_eq]; exact h2 j (by omega)
section
variable {X : Cx} {W : WX} {KE : XD} {e f : Expr} {n : En} {μ : M} {k : DK} {p pos kp : Pos} {kl : Nat}
/-- max(e, default=f) -/
theorem je_maxDf (c : Cok kl X W) (hm : X.mg "max" = none) (h : JE X W KE e n μ fun d μ1 => JE X W KE f n μ1 fun z μ2 => ∃ ns i, SqD μ2 d (ns.map Dv.int) ∧ z = .int i ∧ ∀ m, (ns = [] → m = i) → (ns ≠ [] → m ∈ ns ∧ ∀ y ∈ ns, y ≤ m) → k (.int m) μ2)
    (hg : Gl X "max" := by rfl)
    (he : backTo pos (starEach [e] X.env) = (false, eval e X.env) :: backTo pos (starEach [] X.env) := by rfl) (hpl : (backTo pos (starEach [e] X.env)).any (·.1) = false := by rfl)
    (hall : (backToKw pos (keywordEach [⟨some "default", f, kp⟩] X.env)).all (·.1.isSome) = true := by rfl) (hnone : (backToKw pos (keywordEach [⟨some "default", f, kp⟩] X.env)).any (·.1.isNone) = false := by rfl) (hks : (backToKw pos (keywordEach [⟨some "default", f, kp⟩] X.env)).filterMap (·.1) = [Str.ofString "default"] := by rfl)
    (hs : starEach [e] X.env = (false, eval e X.env) :: starEach [] X.env := by rfl) : JE X W KE (.Call (.Name "max" p) [e] [⟨some "default", f, kp⟩] pos) n μ k :=
  je_of (pe_callBK (call_maxDf c.calm) hg hm PyProof.Rows.boot_max paC (pk_cons peC pk_nil) (by decide) (by decide) he hpl hall hnone hks) fun σ H Q ev rp t q => by
    have h' : JA X W KE [e] n μ fun ds μ1 => ∃ d, ds = [d] ∧ JE X W KE f n μ1 fun z μ2 => ∃ ns i, SqD μ2 d (ns.map Dv.int) ∧ z = .int i ∧ ∀ m, (ns = [] → m = i) → (ns ≠ [] → m ∈ ns ∧ ∀ y ∈ ns, y ≤ m) → k (.int m) μ2 := ja_one (h.mono fun d μ1 z => ⟨d, rfl, z⟩) hs
    refine h' σ H _ ev rp t fun us ds H1 μ1 h1 s1 r1 dd => ?_
    obtain ⟨d, rfl, h1⟩ := h1
    cases dd with
    | cons d1 dn =>
      cases dn
      refine h1 σ H1 _ (ev.step s1) r1 (t.step s1) fun v z H2 μ2 h2 s2 r2 d2 => ?_
      obtain ⟨ns, i, l, rfl, hk⟩ := h2
      cases d2
      obtain ⟨a, vs, rfl, ha, ra⟩ := l.rep r2 (d1.step s2)
      have ei := ra.ints
      subst ei
      exact ⟨a, ns, i, rfl, rfl, ha, fun m z0 z1 => q _ _ _ _ (hk m z0 z1) (s1.trans s2) r2 (.int _)⟩
end
end DL

/-! ## the same objects, list() that stays mutable, a, b, c = e, not in -/
namespace DL
open PySem PySem.Spec L2
theorem InsD.ext {μ μ' : M} {d : Dv} {C : Addr} {fs : List (Str × Dv)} (h : InsD μ d C fs) (e : ExtM μ μ') : InsD μ' d C fs := by
  cases h with
  | ins => exact .ins _ _
  | obj h => exact .obj (e _ _ h)
/-- the same object -/
def DSame : Eqv := fun x y _ => ∃ a, x = .ref a ∧ y = .ref a
theorem mon_same : Mon DSame := fun _ _ _ _ _ d => d
theorem eqG_same {X : Cx} : EqG X 0 DSame := by
  intro A pins s σ H x y u v sb I rx ry d
  obtain ⟨a, rfl, rfl⟩ := d
  cases rx
  cases ry
  exact SeqAt.EqAt.same (A := A) (s := s) (.ref a) X.prog X.w X.xe _ ⟨rfl, H, I, Ext.rfl'⟩
def rSame : R2 := rEqG (DList DSame)
theorem op_same {X : Cx} (hr : Room 1 X.A) : OpR X (compareOp .Eq) rSame := op_eqG (rcG_list mon_same eqG_same) hr
theorem Step.ofExt {μ : M} {H H' : Hp} (e : Ext H H') : Step μ H μ H' := ⟨fun a o h n => ⟨e a o h, n⟩, fun a o kvs h n => ⟨e a o h, n⟩⟩
section
variable {X : Cx} {W : WX} {KE : XD} {e a b : Expr} {n : En} {μ : M} {k : DK} {pos : Pos} {kl : Nat} {K : Kf} {P : Ed}
theorem je_same (c : Cok kl X W) (hk : 1 ≤ kl) (h : JE X W KE a n μ fun x μ1 => JE X W KE b n μ1 fun y μ2 => DOp X.K rSame x y μ2 k) : JE X W KE (.Compare a [.Eq] [b] pos) n μ k := je_cmp (op_same (c.room.mono hk)) (nomark _) h
theorem Rep.ofExt {H H' : Hp} (r : Rep K μ H) (e : Ext H H') : Rep K μ H' := fun a o h => by
  have t := r a o h
  cases q : H a with
  | none => exact absurd q t.tracked
  | some u => exact t.step (Step.ofExt e) ((e a u q).trans q.symm)
theorem objs_refs {H : Hp} : ∀ {as : List Addr} {vs : List V}, DReps K μ H vs (as.map Dv.obj) → vs = as.map V.ref
  | [], _, h => by cases h; rfl
  | a :: as, _, h => by
    cases h with
    | cons h t =>
      cases h
      rw [objs_refs t]; rfl
theorem d_same {x y : Dv} {as : List Addr} (lx : LsE μ x (as.map Dv.obj)) (ly : LsE μ y (as.map Dv.obj)) (h : k (.bl true) μ) : DOp K rSame x y μ k := fun u v H Q r du dv t => by
  obtain ⟨a, vs, rfl, ha, ra⟩ := lx.rep r du
  obtain ⟨b, ws, rfl, hb, rb⟩ := ly.rep r dv
  obtain rfl := objs_refs ra
  obtain rfl := objs_refs rb
  refine ⟨⟨a, b, _, _, rfl, rfl, ha, hb, rfl, fun i p q h1 h2 => ?_⟩, fun H' e => ?_⟩
  · rw [h1] at h2
    cases h2
    rw [List.getElem?_map] at h1
    obtain ⟨z, _, rfl⟩ := Option.map_eq_some_iff.mp h1
    exact ⟨z, rfl, rfl⟩
  · exact t _ _ _ _ h (Step.ofExt e) (r.ofExt e) (.bl _)
/-- list(..) that stays mutable -/
theorem d_listM {x : Dv} {xs : List Dv} (l : SqD μ x xs) (h : ∀ p, μ p = none → k (.obj p) (updM μ p (.lst xs))) : DCl K (fun ys H Q => ∃ p zs, ys = [V.ref p] ∧ (SqL K H p zs ∨ SqT K H p zs) ∧ ∀ l, H l = none → Q (.ref l) (upd H l (.lst zs))) [x] μ k := fun us H Q r d t => by
  cases d with
  | cons d0 d1 =>
    cases d1
    obtain ⟨a, vs, rfl, ha, ra⟩ := l.rep r d0
    refine ⟨a, vs, rfl, .inl ha, fun p hp => ?_⟩
    have s2 : Step μ H (updM μ p (.lst xs)) (upd H p (.lst vs)) := Step.newM hp
    exact t _ _ _ _ (h p (r.free hp)) s2 (r.put s2 ⟨_, upd_same, ra.step s2⟩) (.obj p)
theorem je_notin (c : Cok kl X W) (h : JE X W KE a n μ fun x μ1 => JE X W KE b n μ1 fun y μ2 => DOp X.K (rNotInD X.K) x y μ2 k) (hm : behindInMarks .NotIn b = false := by rfl) : JE X W KE (.Compare a [.NotIn] [b] pos) n μ k := je_cmp (op_notInD (by have := c.room.un; omega)) hm h
theorem jt_notin {kb : Bool → M → Prop} (c : Cok kl X W) (h : JE X W KE a n μ fun x μ1 => JE X W KE b n μ1 fun y μ2 => DOp X.K (rNotInD X.K) x y μ2 (kB kb)) (hm : behindInMarks .NotIn b = false := by rfl) : JT X W KE (.Compare a [.NotIn] [b] pos) n μ kb := jt_cmp (op_notInD (by have := c.room.un; omega)) hm h
theorem d_notinE {α : Type} [DecidableEq α] (E : Enc α) (hn : E.n + 1 ≤ 64) {x : α} {xs : List α} {d e : Dv} (hd : d = E.dv x := by rfl) (he : e = .lst (xs.map E.dv) := by rfl) (h : k (.bl (!decide (x ∈ xs))) μ) : DOp K (rNotInD K) d e μ k := by
  subst hd; subst he
  intro u v H Q r du dv t
  exact ⟨E.py x, xs.map E.py, du.dp (E.toPy x), dv.dp (E.list.toPy xs), E.shaped (by omega) x, E.list.shaped hn xs, by rw [any_eqvE]; exact tl_pure t h r (.bl _)⟩
/-- a, b, c = e, e a tuple -/
theorem js_tup3 (i1 i2 i3 : Nat) {x1 x2 x3 : Str} {p1 p2 p3 p4 : Pos} {kk} (c : Cok kl X W) (h1 : X.N[i1]? = some x1) (h2 : X.N[i2]? = some x2) (h3 : X.N[i3]? = some x3)
    (h : JE X W KE e n μ fun d μ' => ∃ d1 d2 d3, d = .tup [d1, d2, d3] ∧ P.nx (((n.set i1 (some d1)).set i2 (some d2)).set i3 (some d3)) μ')
    (ht : PG X (.Tuple [.Name x1 p1, .Name x2 p2, .Name x3 p3] kk p4) (gTup X.K 3 (gCons (gName i1) (gCons (gName i2) (gCons (gName i3) gNil)))))
    (hs : swapsWithSole [.Tuple [.Name x1 p1, .Name x2 p2, .Name x3 p3] kk p4] e pos.line X.env = pure false := by rfl) (hw : swappedStores [.Tuple [.Name x1 p1, .Name x2 p2, .Name x3 p3] kk p4] e X.env = pure none := by rfl)
    (ha : (assignEach [.Tuple [.Name x1 p1, .Name x2 p2, .Name x3 p3] kk p4] X.env).map (·.2) = [assign (.Tuple [.Name x1 p1, .Name x2 p2, .Name x3 p3] kk p4) X.env] := by rfl) : JS X W KE (.Assign [.Tuple [.Name x1 p1, .Name x2 p2, .Name x3 p3] kk p4] e pos) n μ P :=
  js_of (ps_asg peC ht hs hw ha) fun σ H D ev rp t q => by
    refine h σ H _ ev rp t fun w d H1 μ1 h1 s1 r1 q1 => ?_
    obtain ⟨d1, d2, d3, rfl, hk⟩ := h1
    obtain ⟨a, vs, rfl, e1, fr⟩ := tup_rep q1
    cases fr with
    | cons f1 fr =>
      cases fr with
      | cons f2 fr =>
        cases fr with
        | cons f3 fr =>
        cases fr
        exact ⟨a, _, rfl, SqT.of e1, rfl, _, _, rfl, _, _, rfl, _, _, rfl, rfl, q.nx _ _ _ _ hk ((((ev.step s1).set f1 i1).set f2 i2).set f3 i3) s1 r1⟩
end
section
variable {X : Cx} {scope : Scope} {ifs : List Expr} {elt : Expr} {i : Nat} {n : En} {k : DK}
/-- a comprehension of new things that stays mutable -/
theorem lc_makeM {α : Type} (dv : α → Dv) (mk : α → MO) (xs : List α) {s : Src} {μ1 : M} (hs : s.items = xs.map dv) (hok : s.Ok μ1) (hl : xs.length < sizeLine)
    (h : ∀ (x : α) (μ' : M), x ∈ xs → ExtM μ1 μ' → LcTurn X scope ifs elt ((n.set i none).set i (some (dv x))) μ' fun o μ3 => ∃ a, o = some (.obj a) ∧ μ' a = none ∧ μ3 = updM μ' a (mk x))
    (hk : ∀ (p : Addr) (as : List Addr) (μ' : M), μ1 p = none → ExtM μ1 μ' → μ' p = some (.lst (as.map Dv.obj)) → as.length = xs.length → (∀ (j : Nat) (a : Addr) (x : α), as[j]? = some a → xs[j]? = some x → μ' a = some (mk x)) → (∀ a ∈ as, μ1 a = none) → k (.obj p) μ') : LcAll X scope ifs elt i n k s μ1 := fun p hp => by
  obtain ⟨Iv, h0, hok', ht, hend⟩ := lc_make (k := fun d μ' => ∃ as : List Addr, d = .lst (as.map Dv.obj) ∧ ExtM μ1 μ' ∧ as.length = xs.length ∧ (∀ (j : Nat) (a : Addr) (x : α), as[j]? = some a → xs[j]? = some x → μ' a = some (mk x)) ∧ ∀ a ∈ as, μ1 a = none) dv mk xs hs hok hl h
    (fun as μ' h1 h2 h3 _ h5 => ⟨as, rfl, h1, h2, h3, h5⟩) p hp
  refine ⟨Iv, h0, hok', ht, fun acc μ' iv => ?_⟩
  rcases hend acc μ' iv with ⟨as, e1, h1, h2, h3, h5⟩ | ⟨_, as, e1, _⟩
  · cases e1
    have hm := (hok' _ _ _ iv).2.1
    have un : ∀ a o, (delM μ' p) a = some o → μ' a = some o := fun a o e => by
      have ne : a ≠ p := fun z => by rw [z, delM_same] at e; cases e
      rw [delM_ne ne] at e; exact e
    exact .inr ⟨hm, hk p as μ' hp (fun a o e => un a o (h1 a o e)) hm h2 (fun j a x e1 e2 => un _ _ (h3 j a x e1 e2)) h5⟩
  · cases e1
end
end DL

/-! ## Exceptions made as values -/
namespace DL
open PySem PySem.Spec L2 PyProof.Rows
section
variable {X : Cx}
/-- x(e), an own exception class without its own __init__, as a value -/
theorem pe_exc1D {C : Addr} {bmB : List Value} {B newId initId : String} {x : Str} {e : Expr} {ta : TE} {p pos : Pos} (F : ExcBaseFacts B newId initId bmB) (q : PySem.W.excIn X.K C bmB newId = true) (gC : X.mg x = some (.ref C)) (kC : PySem.W.keepIn X.K (.ref C) = true) (hg : Gl X x)
    (he : PE X e ta) (hs : starEach [e] X.env = (false, eval e X.env) :: starEach [] X.env := by rfl) (hdb : (x == ("__debug__" : Str)) = false := by decide) :
    PE X (.Call (.Name x p) [e] [] pos) (fun σ H Q => ta σ H fun _ H1 => ∀ a, H1 a = none → Q (.ref a) (upd H1 a (ExD (.ref C) none a))) := by
  refine ⟨fun pins s σ H Q I h => ?_⟩
  refine wpAny_Call_Name_kw (ld_glob I hg gC ?_ hdb)
  refine PySem.W.callWith_K (h₀ := X.base) I.ok.mod.kin kC ?_ hs (by rfl)
  rw [hs]
  show wpAny _ _ (spliced ((false, eval e X.env) :: backTo pos (starEach [] X.env))) _ _ s
  refine Calls.spliced_cons (thn (he.run pins s σ H _ I h) fun u s1 ⟨v, H1, I1, r1, q1⟩ => ?_)
  refine Calls.spliced_nil ⟨I1.kIn, ?_⟩
  show wpAny _ _ (call (.ref C) [u]) _ _ _
  obtain ⟨bm, N, nm, qn, bs, hdct, sn, sub, ab, col, dd, k0, k1, k2, k3, k5, mN, hC, hN, hni, T⟩ := exc_obj I1.kIn q
  refine wpAny_call_exc_subT F T hC hN hni (fun h' a hm => ?_) (by show 1 ≤ sizeLine; rw [sizeLine_eq]; omega)
  have hn : H1 a = none := I1.hok.gone hm.new
  obtain ⟨t, ht, _, _⟩ := hm.there
  exact ⟨.ref a, upd H1 a (ExD (.ref C) none a), I1.laidN hm.keeps hm.new hn (exD_ok ht ⟨rfl, rfl⟩ rfl), rfl, q1 a hn⟩
/-- the end of C(e, ..), C with its own __init__: the exception stands as a tracked thing -/
theorem keep_end {pins : List (Addr × Obj)} {σ : L2.St} {H1 H2 : Hp} {hp hp2 h2 : Heap} {g1 g2 : Array GenState} {d1 d2 : Drawn} {t1 t2 : Nat} {os1 os2 : OsState} {a C d : Addr} {fs : List (Str × V)} (I1 : Inv X pins σ H1 ⟨hp, g1, d1, t1, os1⟩)
    (ha : hp.objs.size ≤ a) (k : ∀ b o, hp.get? b = some o → hp2.get? b = some o) (un : Un (frs X.stack) [] (upd H1 a (exo a C none)) H2 hp2 h2) (hok : HOk X.prog X.w H2 h2) (ho : os2 = os1) (hb : AllBare g2)
    (ea : H2 a = some (exo a C (some d))) (ed : H2 d = some (exd d fs)) (hd1 : H1 d = none) :
    Inv X pins σ (upd (upd H2 a (ExD (.ref C) (some d) a)) d (.xd fs)) ⟨h2, g2, d2, t2, os2⟩ := by
  obtain ⟨t0, hoe⟩ := exo_at hok ea
  obtain ⟨mA, hns, rel⟩ := exd_at hok ed
  have hn : H1 a = none := I1.hok.fresh ha
  have hda : d ≠ a := fun z => by
    obtain ⟨o, es, ep, e1, e2, _⟩ := hns
    rw [z, hoe] at e1
    have z2 := Option.some.inj e1
    subst z2
    cases e2
  have nha : ∀ {b : Addr} {o : Obj}, hp.get? b = some o → b ≠ a := fun {b o} z => Nat.ne_of_lt (Nat.lt_of_lt_of_le (Heap.lt_size z) ha)
  have up : ∀ {b : Addr}, b ≠ a → H1 b = none → upd H1 a (exo a C none) b = none := fun {b} hb n => by rw [upd_ne hb]; exact n
  have nd : ∀ {b : Addr} {o : Obj}, hp.get? b = some o → H1 b = none → b ≠ d := fun {b o} z n e => by
    have y := un.free b o (k b o z) (up (nha z) n) (by simp)
    rw [e, ed] at y
    cases y
  have U : Un (frs X.stack) [] H1 (upd (upd H2 a (ExD (.ref C) (some d) a)) d (.xd fs)) hp h2 := {
    keep := fun b o z n hf hx => un.keep b o (k b o z) (up (nha z) n) hf hx
    slot := fun b o z n hf hx => un.slot b o (k b o z) (up (nha z) n) hf hx
    free := fun b o z n hx => by
      rw [upd_ne (nd z n), upd_ne (nha z)]
      exact un.free b o (k b o z) (up (nha z) n) hx
    there := fun b o z hx => un.there b o (k b o z) hx
    tups := fun b xs z => by
      rw [upd_ne (ne_of_none z hd1), upd_ne (ne_of_none z hn)]
      exact un.tups b xs (by rw [upd_ne (ne_of_none z hn)]; exact z)
    frzs := fun b o v z => by
      rw [upd_ne (ne_of_none z hd1), upd_ne (ne_of_none z hn)]
      exact un.frzs b o v (by rw [upd_ne (ne_of_none z hn)]; exact z)
    tbls := fun b ps z => by
      rw [upd_ne (ne_of_none z hd1), upd_ne (ne_of_none z hn)]
      exact un.tbls b ps (by rw [upd_ne (ne_of_none z hn)]; exact z) }
  have hok3 : HOk X.prog X.w (upd (upd H2 a (ExD (.ref C) (some d) a)) d (.xd fs)) h2 := fun b o z => by
    by_cases hbd : b = d
    · subst hbd
      rw [upd_same] at z
      cases z
      exact ⟨mA, hns, rel⟩
    · rw [upd_ne hbd] at z
      by_cases hba : b = a
      · subst hba
        rw [upd_same] at z
        cases z
        exact ⟨⟨_, _, hoe, ⟨rfl, rfl⟩, rfl⟩, ⟨_, hoe⟩, fun _ _ ⟨o, v, q, r⟩ kk => ⟨o, v, kk o q, r⟩⟩
      · rw [upd_ne hba] at z
        have noa : ∀ {c : Addr}, H2 c = some (.own b) → c ≠ a := fun {c} hc => at_ne ea hc exo_own
        exact (hok b o z).stay (fun c v hc y => y)
          (fun c hc => by rw [upd_ne (at_ne ed hc exd_own), upd_ne (noa hc)]; exact hc) (fun c xs hc => by rw [upd_ne (at_ne ed hc exd_tup), upd_ne (at_ne ea hc exo_tup)]; exact hc)
  exact I1.call' (ch := []) ho U hok3 hb (fun b z => absurd z (by simp))
/-- C(e, ..) as a value, C's own __init__ keeping sp -/
def tVlO (C : Addr) (sp : Sp) (ta : TA) : TE := fun σ H Q => ta σ H fun vs H1 => vs.length ≤ 1000 ∧ ∀ a, H1 a = none → sp (.ref a :: vs) (upd H1 a (exo a C none))
  (fun v H2 => v = .non ∧ ∃ (d : Addr) (fs : List (Str × V)), H2 a = some (exo a C (some d)) ∧ H2 d = some (exd d fs) ∧ H1 d = none ∧ Q (.ref a) (upd (upd H2 a (ExD (.ref C) (some d) a)) d (.xd fs))) (fun _ _ _ => False)
theorem pe_oexV {CX : CXT} {x : Str} {C fI : Addr} {k : Nat} {fd : FuncData} {ps : List Str} {sp : Sp} {e : Expr} {es : List Expr} {ta : TA} {p pos : Pos} (T : OexC X.K C) (iC : PySem.W.findIn X.K (.ref C) "__init__" = some (some (.ref fI))) (tI : PySem.W.typeIn X.K (.ref fI) = some (.type "function"))
    (F1 : FnOk X.prog X.w X.K X.mg X.base CX k fI fd ps sp) (hr : Room (k + 1) X.A) (hb : Binds X.K fd ps []) (hx : Passes CX X (fun _ _ _ => False)) (hg : Gl X x) (hm : X.mg x = some (.ref C)) (ha : PA X (e :: es) ta)
    (hdb : (x == ("__debug__" : Str)) = false := by decide) (he : starEach (e :: es) X.env = (false, eval e X.env) :: starEach es X.env := by rfl) (hpl : (backTo pos (starEach es X.env)).any (·.1) = false := by rfl) :
    PE X (.Call (.Name x p) (e :: es) [] pos) (tVlO C sp ta) := by
  refine ⟨fun pins s σ H Q I h => ?_⟩
  obtain ⟨nm, q, N, bs, bm, sn, sub, ab, col, dd, k0, k1, k2, k3, k5, hC, hbm⟩ := T.cls
  refine wpAny_Call_Name_kw (ld_glob I hg hm ?_ hdb)
  refine PySem.W.callWith_K (h₀ := X.base) I.ok.mod.kin T.kC (thn (ha.run pos pins s σ H _ I h) fun us s1 ⟨vs, H1, I1, r1, hz, q1⟩ => ⟨I1.kIn, ?_⟩) he hpl
  show wpAny _ _ (call (.ref C) us) _ _ _
  obtain ⟨hp, g, dr, tk, os⟩ := s1
  have hsz : hp.objs.size ≤ hp.objs.size + 1 := Nat.le_succ _
  have hn : H1 (hp.objs.size + 1) = none := I1.hok.fresh hsz
  have hq := q1 (hp.objs.size + 1) hn
  have kk : ∀ b o, hp.get? b = some o → ((hp.push (PySem.W.kdv_tup us)).push (PySem.HandSPX.excO C hp.objs.size)).get? b = some o := fun b o e => Heap.get?_push_of_some _ (Heap.get?_push_of_some _ e)
  have hget : ((hp.push (PySem.W.kdv_tup us)).push (PySem.HandSPX.excO C hp.objs.size)).get? (hp.objs.size + 1) = some (PySem.HandSPX.excO C hp.objs.size) := by heap_get
  have I2 : Inv X pins σ (upd H1 (hp.objs.size + 1) (exo (hp.objs.size + 1) C none)) ⟨(hp.push (PySem.W.kdv_tup us)).push (PySem.HandSPX.excO C hp.objs.size), g, dr, tk, os⟩ :=
    I1.laid (t' := tk) (a := hp.objs.size + 1) (o := exo (hp.objs.size + 1) C none) (h' := (hp.push (PySem.W.kdv_tup us)).push (PySem.HandSPX.excO C hp.objs.size)) kk hsz (exo_ok hget)
  have r2 : Vals (V.ref (hp.objs.size + 1) :: vs) (Value.ref (hp.objs.size + 1) :: us) := .cons rfl r1
  have hl : (Value.ref (hp.objs.size + 1) :: us ++ []).length = ps.length := by
    have e := r2.length
    rw [F1.len _ _ _ _ hq] at e
    rw [List.append_nil]
    exact e.symm
  have hus : us.length ≤ sizeLine := by
    rw [← Paired.length r1, sizeLine_eq]
    omega
  refine wpAny_call (PySem.HandSPX.call_own PySem.F.excBase_ValueError (fun Y => PySem.HandSPX.refsVE_contains Y bm hbm) (I1.kIn _ _ hC) (PySem.W.looks_findIn I1.kIn iC) (fun self => PySem.W.bind_fn I1.kIn self tI) hus
    (codeAny_mono (F1.run _ X.stack _ _ ⟨Value.ref (hp.objs.size + 1) :: us, []⟩ (Value.ref (hp.objs.size + 1) :: us) _ _ (fun _ _ _ => False) (hr.make C us []) (I2.env0.make C us []) (by have z := hb _ (Value.ref (hp.objs.size + 1) :: us) I2.kIn hl; rw [List.append_nil] at z; exact z) r2 hq) fun r s' hq' => ?_))
  cases r with
  | error er => exact hx pins σ _ _ er s' I2 hq'
  | ok fl =>
    cases fl with
    | ret u =>
      obtain ⟨v, H2, os2, bare2, un2, hok2, rv, ev, d, fs, ea, ed, hd1, q2⟩ := hq'
      subst ev
      obtain ⟨h2, g2, d2, t2, os'⟩ := s'
      exact ⟨rv, .ref (hp.objs.size + 1), _, keep_end I1 hsz kk un2 hok2 os2 bare2 ea ed hd1, rfl, q2⟩
    | next => exact False.elim hq'
    | brk => exact False.elim hq'
    | cont => exact False.elim hq'
end
section
variable {X : Cx} {W : WX} {KE : XD} {e e1 e2 : Expr} {es : List Expr} {n : En} {μ : M} {k : DK} {P : Ed} {p pos pos' : Pos} {x f fld f1 f2 : Str} {kl j : Nat} {C : Addr}
theorem je_exc1 (c : Cok kl X W) (F : Xc X.K X.mg x C) (h : JE X W KE e n μ fun _ μ1 => k (.exc C []) μ1) (hg : Gl X x := by rfl) (hdb : (x == ("__debug__" : Str)) = false := by decide)
    (hs : starEach [e] X.env = (false, eval e X.env) :: starEach [] X.env := by rfl) : JE X W KE (.Call (.Name x p) [e] [] pos) n μ k :=
  je_of (pe_exc1D PySem.F.excBase_ValueError F.q F.g F.k hg peC hs hdb) fun σ H Q ev rp t q => by
    refine h σ H _ ev rp t fun v d H1 μ1 h1 s1 r1 d1 => fun a ha => ?_
    exact tl_new (q.step s1) h1 r1 ha (.exc0 upd_same (r1.free ha))
theorem exo_kept {H1 : Hp} {a dx : Addr} {o1 o2 o3 o4 o5 : HO} (ne : dx ≠ a) : upd (upd (upd (upd (upd H1 a o1) dx o2) a o3) a o4) dx o5 = upd (upd H1 a o4) dx o5 := by
  funext b
  by_cases z : b = dx
  · rw [z, upd_same, upd_same]
  · rw [upd_ne z, upd_ne z]
    by_cases y : b = a
    · rw [y, upd_same, upd_same]
    · rw [upd_ne y, upd_ne y, upd_ne z, upd_ne y, upd_ne y]
theorem exo_kept2 {H1 : Hp} {a dx : Addr} {o1 o2 o3 o4 o5 o6 : HO} (ne : dx ≠ a) : upd (upd (upd (upd (upd (upd H1 a o1) dx o2) a o3) dx o6) a o4) dx o5 = upd (upd H1 a o4) dx o5 := by
  funext b
  by_cases z : b = dx
  · rw [z, upd_same, upd_same]
  · rw [upd_ne z, upd_ne z]
    by_cases y : b = a
    · rw [y, upd_same, upd_same]
    · rw [upd_ne y, upd_ne y, upd_ne z, upd_ne y, upd_ne z, upd_ne y]
theorem je_excI1 (c : Cok kl X W) (F : DExI X.prog X.w X.K X.mg X.base j x C (sp1 fld C)) (hj : j + 1 ≤ kl) (h : JE X W KE e n μ fun d μ1 => k (.exc C [(fld, d)]) μ1) (hg : Gl X x := by rfl)
    (hdb : (x == ("__debug__" : Str)) = false := by decide) (hs : starEach [e] X.env = (false, eval e X.env) :: starEach [] X.env := by rfl) (hpl : (backTo pos (starEach [] X.env)).any (·.1) = false := by rfl) : JE X W KE (.Call (.Name x p) [e] [] pos) n μ k := by
  obtain ⟨fI, fd, ps, F1, hb, T⟩ := F.ex
  refine je_of (pe_oexV T.o T.i T.t F1 (c.room.mono hj) hb passF hg T.g paC hdb hs hpl) fun σ H Q ev rp t q => ?_
  have h' : JA X W KE [e] n μ fun ds μ1 => ∃ d, ds = [d] ∧ k (.exc C [(fld, d)]) μ1 := ja_one (h.mono fun d μ1 z => ⟨d, rfl, z⟩) hs
  refine h' σ H _ ev rp t fun vs ds H1 μ1 h1 s1 r1 dd => ?_
  obtain ⟨d, rfl, hk⟩ := h1
  cases dd with
  | cons d1 dn =>
    cases dn
    refine ⟨by simp, fun a ha => ⟨a, _, rfl, upd_same, fun dx hdx ne => ⟨rfl, dx, _, upd_same, (upd_ne ne).trans upd_same, by rw [upd_ne ne] at hdx; exact hdx, ?_⟩⟩⟩
    have hdx1 : H1 dx = none := by rw [upd_ne ne] at hdx; exact hdx
    rw [exo_kept ne]
    have sN : ∀ o, Step μ1 H1 μ1 (upd H1 a o) := fun o => Step.new ha
    have hdx2 : ∀ o, upd H1 a o dx = none := fun o => by rw [upd_ne ne]; exact hdx1
    have sM : ∀ o o2, Step μ1 (upd H1 a o) μ1 (upd (upd H1 a o) dx o2) := fun o o2 => Step.new (hdx2 o)
    exact q _ _ _ _ hk (s1.trans ((sN _).trans (sM _ _))) ((r1.new ha).new (hdx2 _)) (.exc1 ((upd_ne ne.symm).trans upd_same) (r1.free ha) upd_same (r1.free hdx1) (.cons (d1.step ((sN _).trans (sM _ _))) .nil))
theorem je_excI2 (c : Cok kl X W) (F : DExI X.prog X.w X.K X.mg X.base j x C (sp2 f1 f2 C)) (hj : j + 1 ≤ kl) (h : JE X W KE e1 n μ fun d μ1 => JE X W KE e2 n μ1 fun d2 μ2 => k (.exc C [(f2, d2), (f1, d)]) μ2) (hg : Gl X x := by rfl)
    (hdb : (x == ("__debug__" : Str)) = false := by decide) (hs : starEach [e1, e2] X.env = (false, eval e1 X.env) :: starEach [e2] X.env := by rfl) (hs2 : starEach [e2] X.env = (false, eval e2 X.env) :: starEach [] X.env := by rfl) (hpl : (backTo pos (starEach [e2] X.env)).any (·.1) = false := by rfl) : JE X W KE (.Call (.Name x p) [e1, e2] [] pos) n μ k := by
  obtain ⟨fI, fd, ps, F1, hb, T⟩ := F.ex
  refine je_of (pe_oexV T.o T.i T.t F1 (c.room.mono hj) hb passF hg T.g paC hdb hs hpl) fun σ H Q ev rp t q => ?_
  have h' : JA X W KE [e1, e2] n μ fun ds μ2 => ∃ d d2, ds = [d, d2] ∧ k (.exc C [(f2, d2), (f1, d)]) μ2 := ja_cons (h.mono fun d μ1 z => ja_one (z.mono fun d2 μ2 z2 => ⟨d, d2, rfl, z2⟩) hs2) hs
  refine h' σ H _ ev rp t fun vs ds H1 μ1 h1 s1 r1 dd => ?_
  obtain ⟨d, d2, rfl, hk⟩ := h1
  cases dd with
  | cons d1 dn =>
    cases dn with
    | cons d3 dn =>
    cases dn
    refine ⟨by simp, fun a ha => ⟨a, _, _, rfl, upd_same, fun dx hdx ne => ⟨rfl, dx, _, (upd_ne ne.symm).trans upd_same, upd_same, by rw [upd_ne ne] at hdx; exact hdx, ?_⟩⟩⟩
    have hdx1 : H1 dx = none := by rw [upd_ne ne] at hdx; exact hdx
    rw [exo_kept2 ne]
    have sN : ∀ o, Step μ1 H1 μ1 (upd H1 a o) := fun o => Step.new ha
    have hdx2 : ∀ o, upd H1 a o dx = none := fun o => by rw [upd_ne ne]; exact hdx1
    have sM : ∀ o o2, Step μ1 (upd H1 a o) μ1 (upd (upd H1 a o) dx o2) := fun o o2 => Step.new (hdx2 o)
    exact q _ _ _ _ hk (s1.trans ((sN _).trans (sM _ _))) ((r1.new ha).new (hdx2 _)) (.exc1 ((upd_ne ne.symm).trans upd_same) (r1.free ha) upd_same (r1.free hdx1) (.cons (d3.step ((sN _).trans (sM _ _))) (.cons (d1.step ((sN _).trans (sM _ _))) .nil)))
end
end DL

/-! ## sorted(set(xs)), xs a list of ints, any number of them below the library's bound -/
namespace DL
open PySem PySem.Spec L2 PyProof.Rows
/-- the new set -/
abbrev fso (w : World) : Obj := { cls := .type "set", dict := none, data := .set #[] 0 (.fresh 0 0 (!w.params.followText "set-order")) }
section
variable {P : Program} {w : World} {A : Around} {E : Value → Shared → Prop} {s : Shared}
/-- set(l), l a list of ints -/
theorem set_of_ints {l : Addr} {items : Array Value} (ns : List Int) {Q : Value → Shared → Prop} (hh : A.handled = none) (hl : s.heap.IsList l items) (hit : IntsAre items.toList ns) (hb : ns.length + 1 < scanBound)
    (h : ∀ (g : Heap) (tk c : Nat), SetR w g s.heap.objs.size (fun j => decide (j ∈ ns)) c → c ≤ ns.length → (∀ b o, s.heap.get? b = some o → g.get? b = some o) → Q (.ref s.heap.objs.size) { s with heap := g, toks := tk }) :
    wpAny (model P w) A (call (.type "set") [.ref l]) Q E s := by
  have len : items.size = ns.length := (Array.length_toList (xs := items)).symm.trans (IntsAre.length hit)
  obtain ⟨c, tl, hmro⟩ := F.called_set.mro
  obtain ⟨hmade, hsub⟩ := And.intro F.called_set.made F.called_set.sub
  refine wpAny_call (codeAny_of_tree (wpAny_pure ⟨Code.quiet_builtin _ (by decide +kernel), codeAny_builtin F.entry_type_call ?_⟩))
  rw [Around.under_plain (weight_type_call_type "set" [.ref l] []) rfl]
  obtain ⟨h1, h2, hct⟩ := And.intro F.called_set.notType (And.intro F.called_set.canCreate (F.typeCall_set_1 (.ref l)))
  repeat (any_goals (first | assumption | wp_step))
  refine codeAny_mono (code_set_led1 (.ref l) (E := E) (Q₁ := fun obj s₁ => obj = .ref s.heap.objs.size ∧ s₁ = { s with heap := s.heap.push (fso w) }) ⟨rfl, rfl⟩) fun r s₁ hr => ?_
  match r, hr with
  | .error e, hr => exact hr
  | .ok .next, hr => exact hr.elim
  | .ok .brk, hr => exact hr.elim
  | .ok .cont, hr => exact hr.elim
  | .ok (.ret obj), hr =>
    obtain ⟨rfl, rfl⟩ := hr
    have hS : (s.heap.push (fso w)).get? s.heap.objs.size = some (fso w) := Heap.get?_push_size _ rfl
    have hT : Shared.TypeIs { s with heap := s.heap.push (fso w) } (.ref s.heap.objs.size) "set" := ⟨_, hS, rfl⟩
    obtain ⟨hli, hbi⟩ := And.intro F.called_set.init.lookup (F.called_set.init.bind (.ref s.heap.objs.size))
    repeat (any_goals (first | assumption | wp_step))
    refine codeAny_mono (codeAny_call_builtin (R := wants (fun r s₂ => r = .none ∧ ∃ g tk c, s₂ = { s with heap := g, toks := tk } ∧ SetR w g s.heap.objs.size (fun j => decide (j ∈ ns)) c ∧ c ≤ ns.length ∧
        (∀ b o, s.heap.get? b = some o → g.get? b = some o)) E) F.called_set.init.plain F.entry_set_init (check_set_init_1 hT ?_)) fun r₂ s₂ hr₂ => ?_
    · obtain ⟨⟨oc, od, oda, os⟩, hol, hcl, nl, hdl⟩ := hl
      simp only at hcl hdl
      subst hcl; subst hdl
      have hol' : (s.heap.push (fso w)).get? l = some { cls := .type "list", dict := od, data := .seq items nl, slots := os } := Heap.get?_push_of_some _ hol
      obtain ⟨hsls, hslf⟩ := And.intro F.sub_list_set F.sub_list_frozenset
      have hne : (Value.type "list" == Value.type "dict") = false := by decide
      have hl1 : (s.heap.push (fso w)).IsList l items := ⟨_, hol', rfl, nl, rfl⟩
      unfold Builtin.«set.__init__» noKeywords Builtin.Frozenset.updateFrom
      generalize hPI : pyIter = PI
      wp_walk
      subst hPI
      refine wpAny_pyIter_list hl1 (wpAny_bind (wpAny_runValue ?_))
      have hlS : l < s.heap.objs.size := Heap.lt_size hol
      have hz1 : (s.heap.push (fso w)).objs.size = s.heap.objs.size + 1 := Heap.size_push ..
      have apart : l ≠ (s.heap.push (fso w)).objs.size := by rw [hz1]; exact Nat.ne_of_lt (Nat.lt_succ_of_lt hlS)
      have out : s.heap.objs.size ∉ [(s.heap.push (fso w)).objs.size, l] := fun z => by
        rw [hz1] at z
        rcases List.mem_cons.mp z with z | z
        · exact Nat.ne_of_lt (Nat.lt_succ_self _) z
        · exact Nat.ne_of_gt hlS (List.mem_singleton.mp z)
      have item : ∀ (i : Nat) (v : Value), items[i]? = some v → ∃ k t, ns[i]? = some k ∧ v = .int k t := fun i v hv => by
        obtain ⟨t, e⟩ := PyProof.Rows.IntsAre.int_at hit i v (by rw [Array.getElem?_toList]; exact hv)
        have hi : i < ns.length := len ▸ (Array.getElem?_eq_some_iff.mp hv).1
        exact ⟨ns[i], t, List.getElem?_eq_getElem hi, by rw [e, List.getD_eq_getElem?_getD, List.getElem?_eq_getElem hi] <;> rfl⟩
      refine set_update_ints ((Walks.list (show A.in1.in1.in1.handled = none by simp [hh]) _ l apart items).toS) s.heap.objs.size out ns len hb item (items.size - 0) 0 _ (by omega) (Nat.zero_le _)
        ⟨⟨_, Heap.get?_push_size _ rfl, rfl, rfl⟩, hl1.push _⟩ ⟨0, Nat.le_refl 0, setR_new_at (Heap.get?_push_of_some _ hS)⟩ fun s' c' hm hc' hS' => ?_
      obtain ⟨h', g2, d', tk', os'⟩ := s'
      obtain rfl : g2 = s.gens := hm.gens
      obtain rfl : d' = s.drawn := hm.drawn
      obtain rfl : os' = s.os := hm.os
      show wpAny _ _ _ _ _ _
      refine wpAny_pure ?_
      show wpAny _ _ (ret Value.none) _ _ _
      refine wpAny_pure ⟨rfl, h', tk', c', rfl, hS', len ▸ hc', fun b o e => ?_⟩
      have hb0 : b < s.heap.objs.size := Heap.lt_size e
      refine hm.heap b o (fun z => ?_) (Heap.get?_push_of_some _ (Heap.get?_push_of_some _ e))
      rw [hz1] at z
      rcases List.mem_cons.mp z with z | z
      · exact Nat.ne_of_lt hb0 z
      · exact Nat.ne_of_lt (Nat.lt_succ_of_lt hb0) (List.mem_singleton.mp z)
    · match r₂, hr₂ with
      | .error e, hr₂ => exact hr₂
      | .ok .next, hr₂ => exact hr₂.elim
      | .ok .brk, hr₂ => exact hr₂.elim
      | .ok .cont, hr₂ => exact hr₂.elim
      | .ok (.ret r), hr₂ =>
        obtain ⟨rfl, g, tk, c', rfl, hS', hc', hk'⟩ := hr₂
        repeat (any_goals (first | assumption | wp_step))
        exact h _ _ _ hS' hc' hk'
theorem rawIs {l : List Value} (h : ∀ v ∈ l, ∃ k tk, v = Value.int k tk) : IntsAre l (l.map SrtO.iv) := by
  induction l with
  | nil => exact .nil
  | cons v r ih =>
    obtain ⟨k, tk, rfl⟩ := h v List.mem_cons_self
    exact .cons k tk (ih fun u hu => h u (List.mem_cons_of_mem _ hu))
/-- sorted(a), a a set of ints, any number of them -/
theorem sorted_ints_set {a : Addr} {S : Int → Bool} {n : Nat} {Q : Value → Shared → Prop} (R : SetR w s.heap a S n) (hh : A.handled = none)
    (hQ : ∀ s' p (out : Array Value) (c : Nat) (ns : List Int), (∀ b o, s.heap.get? b = some o → s'.heap.get? b = some o) → s'.gens = s.gens → s'.os = s.os → s.heap.objs.size ≤ p →
      s'.heap.get? p = some (seqObj "list" out c) → IntsAre out.toList ns → ns.Pairwise (· < ·) → (∀ k, k ∈ ns ↔ S k = true) → ns.length = n → Q (.ref p) s') :
    wpAny (model P w) A (call (.builtin "sorted") [.ref a]) Q E s := by
  obtain ⟨o, es, ep, t, ho, hex, hd, g, nd, hm, hb, hf, hn, hr, hl⟩ := R
  refine Calls.call_function_entry kind_sorted plain_sorted entry_sorted (args_sorted1 _) ?_
  unfold Builtin.«sorted»
  refine wpAny_bind (m := checkCount "sorted" 1 1 _) (wpAny_pure (wpAny_bind (collect_set (A := A.in1) hh ⟨o, ho, hex.1, hd⟩ hf hb hr hl fun s1 vs k1 hz g1 o1 pm => ?_)))
  have cnt : vs.length = n := pm.length_eq.trans (by rw [List.length_map, Array.length_toList]; exact hn)
  have line : vs.length ≤ sizeLine := by
    have : n < scanBound := hn ▸ hb
    unfold scanBound at this
    rw [cnt, sizeLine_eq]; omega
  have hI : IntsAre vs (vs.map SrtO.iv) := rawIs fun v hv => by
    obtain ⟨e, he, rfl⟩ := List.mem_map.mp (pm.mem_iff.mp hv)
    obtain ⟨k, tk, q, _⟩ := g e he
    exact ⟨k, tk, q⟩
  have pk : (vs.map SrtO.iv).Perm (es.toList.map keyOf) := by
    refine (pm.map SrtO.iv).trans (List.Perm.of_eq ?_)
    rw [List.map_map]
    refine List.map_congr_left fun e he => ?_
    obtain ⟨k, tk, q, _⟩ := g e he
    show SrtO.iv e.2 = keyOf e
    unfold keyOf
    rw [q] <;> rfl
  refine wpAny_bind (wpAny_newList ?_ line)
  have hoL : (s1.heap.push (seqObj "list" vs.toArray 0)).get? s1.heap.objs.size = some (seqObj "list" vs.toArray 0) := Heap.get?_push_size _ rfl
  refine wpAny_bind (wpAny_holding (wpAny_call_entry slot_list_sort ⟨_, hoL, rfl⟩ entry_list_sort (SrtO.list_sort_ord SrtO.swo_int hoL line (fun h2 => SrtO.ints_sortable hI h2) fun out a1 a2 => ⟨_, rfl, ?_⟩) (args_list_sort _)))
  obtain ⟨i1, i2, i3⟩ := SrtO.ints_out hI a1 a2
  obtain ⟨c, hc⟩ := sortedHeap_at (vs := vs) (out := out.toArray) hoL
  have pn := i2.trans pk
  refine wpAny_pure ⟨_, rfl, hQ _ s1.heap.objs.size out.toArray c _ (fun b u e => ?_) g1 o1 hz hc i1 (lt_of_le_nodup _ i3 (pn.nodup_iff.mpr nd)) (fun k => by rw [pn.mem_iff, ← hm k]) (pn.length_eq.trans (by rw [List.length_map, Array.length_toList]; exact hn))⟩
  have q := k1 b u e
  have lt := Heap.lt_size q
  exact (sortedHeap_old (Nat.ne_of_lt lt) (by rw [size_push']; exact Nat.lt_succ_of_lt lt)).trans (Heap.get?_push_of_some _ q)
end
section
variable {X : Cx}
/-- the rule of set(xs) -/
def rSetI (K : Kf) (w : World) : List V → Hp → VK → Prop := fun xs H Q => ∃ (l : Addr) (ns : List Int), xs = [V.ref l] ∧ SqL K H l (ns.map V.int) ∧ ns.length + 1 < scanBound ∧
  ∀ a c, H a = none → c ≤ ns.length → Q (.ref a) (upd H a (SetO w a (fun j => decide (j ∈ ns)) c))
theorem cr_setI (hc : X.calm = true) : CallR X (.type "set") (rSetI X.K X.w) := by
  intro pins s σ H xs us Q I r h
  obtain ⟨l, ns, rfl, hl, hb, q⟩ := h
  rw [Vals.ref1 r]
  obtain ⟨its, rv, pl, hz⟩ := I.list hl
  have hn : H s.heap.objs.size = none := I.hok.fresh (Nat.le_refl _)
  refine set_of_ints (P := X.prog) (w := X.w) ns (I.ok.hd hc) pl.isList (by simpa using rv.ints) hb fun g tk c R hc' k => ?_
  exact ⟨.ref s.heap.objs.size, _, I.laid (t' := tk) k (Nat.le_refl _) (setO_new R), rfl, q _ c hn hc'⟩
/-- the rule of sorted(set) -/
def rSrtSetI (w : World) : List V → Hp → VK → Prop := fun vs H Q => ∃ (a : Addr) (S : Int → Bool) (n : Nat), vs = [V.ref a] ∧ H a = some (SetO w a S n) ∧ n < scanBound ∧
  ∀ (ns : List Int) (p : Addr), ns.Pairwise (· < ·) → (∀ k : Int, k ∈ ns ↔ S k = true) → H p = none → Q (.ref p) (upd H p (.lst (ns.map V.int)))
theorem cr_srtSetI (hc : X.calm = true) : CallR X (.builtin "sorted") (rSrtSetI X.w) := by
  intro pins s σ H vs us Q I r h
  obtain ⟨a, S, n, rfl, ha, hb, q⟩ := h
  rw [Vals.ref1 r]
  refine sorted_ints_set (setO_get I ha) (I.ok.hd hc) fun s' p out c ns k g o hp hg hi hs hm hl => ?_
  have len : (ns.map V.int).length ≤ sizeLine := by
    unfold scanBound at hb
    rw [List.length_map, hl, sizeLine_eq]; omega
  have hn : H p = none := I.hok.fresh hp
  have J : Inv X pins σ (upd H p (.lst (ns.map V.int))) { s with heap := s'.heap, gens := s'.gens, drawn := s'.drawn, toks := s'.toks } :=
    I.call (ch := []) (Un.laid k hp hn) (I.hok.laid k hp ⟨len, out.toList, c, vals_of_ints hi, hg⟩) (by rw [g]; exact I.bare) (fun _ z => nomatch z)
  have e : s' = { s with heap := s'.heap, gens := s'.gens, drawn := s'.drawn, toks := s'.toks } := by
    cases s'
    cases s
    cases o
    rfl
  rw [e]
  exact ⟨.ref p, _, J, rfl, q ns p hs hm hn⟩
end
section
variable {X : Cx} {W : WX} {KE : XD} {e : Expr} {n : En} {μ : M} {k : DK} {p pos p2 pos2 : Pos} {kl : Nat}
/-- sorted(set(xs)) -/
theorem je_sortset (c : Cok kl X W) (m1 : X.mg "sorted" = none) (m2 : X.mg "set" = none) (h : JE X W KE e n μ fun d μ1 => ∃ ns : List Int, SqD μ1 d (ns.map Dv.int) ∧ ns.length + 1 < scanBound ∧
      ∀ ms : List Int, ms.Pairwise (· < ·) → (∀ i, i ∈ ms ↔ i ∈ ns) → k (.lst (ms.map Dv.int)) μ1)
    (g1 : Gl X "sorted" := by rfl) (g2 : Gl X "set" := by rfl) (hs : starEach [e] X.env = (false, eval e X.env) :: starEach [] X.env := by rfl) : JE X W KE (.Call (.Name "sorted" p) [.Call (.Name "set" p2) [e] [] pos2] [] pos) n μ k :=
  je_of (pe_callB (cr_srtSetI c.calm) g1 m1 PyProof.Rows.boot_sorted (pa_cons (pe_callTy (cr_setI c.calm) g2 m2 PyProof.Rows.boot_set (paC (es := [e]) ) (by decide) (by decide) hs rfl) pa_nil rfl) (by decide) (by decide) rfl rfl) fun σ H Q ev rp t q => by
    have h' : JA X W KE [e] n μ fun ds μ1 => ∃ d, ds = [d] ∧ ∃ ns : List Int, SqD μ1 d (ns.map Dv.int) ∧ ns.length + 1 < scanBound ∧ ∀ ms : List Int, ms.Pairwise (· < ·) → (∀ i, i ∈ ms ↔ i ∈ ns) → k (.lst (ms.map Dv.int)) μ1 := ja_one (h.mono fun d μ1 z => ⟨d, rfl, z⟩) hs
    refine h' σ H _ ev rp t fun us ds H1 μ1 h1 s1 r1 dd => ?_
    obtain ⟨d, rfl, ns, sq, hb, hk⟩ := h1
    cases dd with
    | cons d0 dn =>
      cases dn
      obtain ⟨a, vs, rfl, ha, ra⟩ := sq.rep r1 d0
      have e := ra.ints
      subst e
      refine ⟨a, ns, rfl, ha, hb, fun b cc hn hc => ?_⟩
      refine ⟨b, _, cc, rfl, upd_same, by omega, fun ms p hs hm hp => ?_⟩
      have s2 : Step μ1 H1 μ1 (upd H1 b (SetO X.w b (fun j => decide (j ∈ ns)) cc)) := Step.new hn
      exact tl_new (q.step (s1.trans s2)) (hk ms hs fun i => (hm i).trans ⟨of_decide_eq_true, decide_eq_true⟩) (r1.new hn) hp (.lst upd_same ((r1.new hn).free hp) (.ofInts ms))
end
end DL

namespace TSL
open PySem PySem.Spec L2 DL
structure Ad where
  CGE : Addr
  CNB : Addr
  CNM : Addr
  CNC : Addr
  CNP : Addr
  CNV : Addr
  CFU : Addr
  CBK : Addr
  CJ : Addr
  CW : Addr
  CBO : Addr
structure Txt (K : Kf) (mg : Str → Option Value) (A : Ad) : Prop where
  cl_Jar : Cls K A.CJ
  na_Jar_size : NoAttr K A.CJ "size"
  na_Jar_flow : NoAttr K A.CJ "flow"
  cl_Window : Cls K A.CW
  na_Window_most : NoAttr K A.CW "most"
  na_Window_span : NoAttr K A.CW "span"
  cl_Book : Cls K A.CBO
  na_Book_limits : NoAttr K A.CBO "limits"
  na_Book_rows : NoAttr K A.CBO "rows"
  ic_Jar : PySem.W.findIn K (.ref A.CJ) "__class__" = some (some (.builtin "object.__class__"))
  im_Jar : PySem.W.mroIn K A.CJ (.type "object") = some true
  ic_Window : PySem.W.findIn K (.ref A.CW) "__class__" = some (some (.builtin "object.__class__"))
  im_Window : PySem.W.mroIn K A.CW (.type "object") = some true
  isn : PySem.W.specialIn K (.builtin "object.__class__") "__get__" = some (some (.builtin "getset_descriptor.__get__"))
  ist : PySem.W.takesIn K (.builtin "object.__class__") = some true
  x_GateError : Xc K mg "GateError" A.CGE
  xc_GateError : ExcC K A.CGE
  x_NoBound : Xc K mg "NoBound" A.CNB
  xc_NoBound : ExcC K A.CNB
  x_NoMoment : Xc K mg "NoMoment" A.CNM
  xc_NoMoment : ExcC K A.CNM
  x_NoCost : Xc K mg "NoCost" A.CNC
  xc_NoCost : ExcC K A.CNC
  x_NoPlace : Xc K mg "NoPlace" A.CNP
  xc_NoPlace : ExcC K A.CNP
  x_NoVisit : Xc K mg "NoVisit" A.CNV
  xc_NoVisit : ExcC K A.CNV
  x_Full : Xc K mg "Full" A.CFU
  xc_Full : ExcC K A.CFU
  gei : GeI K mg A.CGE
  oc_Broken : OexC K A.CBK
  na_Broken_k : NoAttr K A.CBK "k"
  na_Broken_stretch : NoAttr K A.CBK "stretch"
  xc_Broken : ExcC K A.CBK
  ex_NoBound_GateError : PySem.W.exmOne K (.ref A.CNB) (.ref A.CGE) = some true
  ex_NoMoment_GateError : PySem.W.exmOne K (.ref A.CNM) (.ref A.CGE) = some true
  ex_NoCost_GateError : PySem.W.exmOne K (.ref A.CNC) (.ref A.CGE) = some true
  ex_NoPlace_GateError : PySem.W.exmOne K (.ref A.CNP) (.ref A.CGE) = some true
  ex_NoVisit_GateError : PySem.W.exmOne K (.ref A.CNV) (.ref A.CGE) = some true
  ex_Full_GateError : PySem.W.exmOne K (.ref A.CFU) (.ref A.CGE) = some true
  ex_Broken_GateError : PySem.W.exmOne K (.ref A.CBK) (.ref A.CGE) = some true
  kit_Jar_Jar : PySem.W.kitOne K (.ref A.CJ) (.ref A.CJ) = some true
  kit_Window_Jar : PySem.W.kitOne K (.ref A.CW) (.ref A.CJ) = some false
  kit_Window_Window : PySem.W.kitOne K (.ref A.CW) (.ref A.CW) = some true
  kit_NoneType_Jar : PySem.W.kitOne K (.type "NoneType") (.ref A.CJ) = some false
  kit_NoneType_Window : PySem.W.kitOne K (.type "NoneType") (.ref A.CW) = some false
  kit_int_Jar : PySem.W.kitOne K (.type "int") (.ref A.CJ) = some false
  kit_int_Window : PySem.W.kitOne K (.type "int") (.ref A.CW) = some false
  kit_bool_Jar : PySem.W.kitOne K (.type "bool") (.ref A.CJ) = some false
  kit_bool_Window : PySem.W.kitOne K (.type "bool") (.ref A.CW) = some false
  kit_str_Jar : PySem.W.kitOne K (.type "str") (.ref A.CJ) = some false
  kit_str_Window : PySem.W.kitOne K (.type "str") (.ref A.CW) = some false
  kit_list_Jar : PySem.W.kitOne K (.type "list") (.ref A.CJ) = some false
  kit_list_Window : PySem.W.kitOne K (.type "list") (.ref A.CW) = some false
  kit_tuple_Jar : PySem.W.kitOne K (.type "tuple") (.ref A.CJ) = some false
  kit_tuple_Window : PySem.W.kitOne K (.type "tuple") (.ref A.CW) = some false
  m_len : mg "len" = none
  m_isinstance : mg "isinstance" = none
  m_int : mg "int" = none
  m_bool : mg "bool" = none
  m_tuple : mg "tuple" = none
  m_list : mg "list" = none
  m_range : mg "range" = none
  m_max : mg "max" = none
  m_min : mg "min" = none
  m_all : mg "all" = none
  m_enumerate : mg "enumerate" = none
  m_str : mg "str" = none
  m_sum : mg "sum" = none
  m_sorted : mg "sorted" = none
  m_set : mg "set" = none
  g_MOST_ROOM : Gv mg "MOST_ROOM" (.int 1000000000000000)
  g_MOST_FLOW : Gv mg "MOST_FLOW" (.int 1000000000)
  g_MOST_SPAN : Gv mg "MOST_SPAN" (.int 1000000000000)
  g_MOST_MOMENT : Gv mg "MOST_MOMENT" (.int 1000000000000)
  g_MOST_COST : Gv mg "MOST_COST" (.int 1000000000)
  g_MOST_BOUNDS : Gv mg "MOST_BOUNDS" (.int 4)
  g_MOST_VISITS : Gv mg "MOST_VISITS" (.int 40)
  g_Jar : Gv mg "Jar" (.obj A.CJ)
  g_Window : Gv mg "Window" (.obj A.CW)
  g_NoBound : Gv mg "NoBound" (.obj A.CNB)
  g_NoMoment : Gv mg "NoMoment" (.obj A.CNM)
  g_NoCost : Gv mg "NoCost" (.obj A.CNC)
  g_NoPlace : Gv mg "NoPlace" (.obj A.CNP)
  g_NoVisit : Gv mg "NoVisit" (.obj A.CNV)
  g_Full : Gv mg "Full" (.obj A.CFU)
  g_Broken : Gv mg "Broken" (.obj A.CBK)
/-! ### bounds, rows, cells -/
theorem lookup_putD (f g : Str) (v : Dv) : ∀ fs : List (Str × Dv), (putD f v fs).lookup g = if g = f then some v else fs.lookup g
  | [] => by
    show ([(f, v)] : List (Str × Dv)).lookup g = _
    rw [List.lookup_cons]
    by_cases e : g = f
    · subst e; simp
    · have : (g == f) = false := by simpa using e
      rw [this, if_neg e]
  | (k, x) :: r => by
    show (if k = f then (k, v) :: r else (k, x) :: putD f v r).lookup g = _
    by_cases e : k = f
    · subst e
      rw [if_pos rfl, List.lookup_cons, List.lookup_cons]
      by_cases e2 : g = k
      · subst e2; simp
      · have : (g == k) = false := by simpa using e2
        rw [this, if_neg e2]
    · rw [if_neg e, List.lookup_cons, List.lookup_cons, lookup_putD f g v r]
      by_cases e2 : g = k
      · subst e2; simp [e]
      · have : (g == k) = false := by simpa using e2
        rw [this]
theorem length_putD (f : Str) (v : Dv) : ∀ fs : List (Str × Dv), (putD f v fs).length ≤ fs.length + 1
  | [] => Nat.le_refl _
  | (k, x) :: r => by
    show (if k = f then (k, v) :: r else (k, x) :: putD f v r).length ≤ _
    have := length_putD f v r
    split
    · simp
    · simp; omega
inductive Bd where
  | jar (s f : Int) | win (m s : Int)
  deriving DecidableEq
def Bd.ok : Bd → Prop
  | .jar s f => (1 ≤ s ∧ s ≤ 1000000000000000) ∧ 0 ≤ f ∧ f ≤ 1000000000
  | .win m s => (1 ≤ m ∧ m ≤ 1000000000000000) ∧ 1 ≤ s ∧ s ≤ 1000000000000
def Bd.tv : Bd → Dv
  | .jar s f => .tup [.str "jar", .int s, .int f]
  | .win m s => .tup [.str "window", .int m, .int s]
def Bd.room : Bd → Int → Int → Option Int
  | .jar s f, a, b => some (s + f * (b - a))
  | .win m s, a, b => if b - a < s then some m else none
def opI : Option Int → Dv
  | none => .non
  | some i => .int i
theorem opI_non (o : Option Int) : isNonD (opI o) = o.isNone := by cases o <;> rfl
abbrev encV : Enc (Int × Int) := Enc.pair Enc.int Enc.int
def m_c1 (ns : List Int) (k : Int) : Int := if ns = [] then 7919 * k + 11 else 7919 * k + 11 + ns.getD (k % ns.length).toNat 0 * 48271 + 96810 * k + k / ns.length * 7919
def m_tail (c1 k : Int) : Int := (c1 % 2147483647 * (c1 % 2147483647) % 2147483629 * (c1 % 2147483647 * (c1 % 2147483647) % 2147483629) + 69621 * (c1 % 2147483647 * (c1 % 2147483647) % 2147483629) + k) % 2147483587
def m_law_cell (ns : List Int) (k : Int) : Int := m_tail (m_c1 ns k) k
theorem cell_ne {ns : List Int} (h : ¬ ns = []) (k : Int) : m_law_cell ns k = m_tail (7919 * k + 11 + ns.getD (k % ns.length).toNat 0 * 48271 + 96810 * k + k / ns.length * 7919) k := congrArg (m_tail · k) (if_neg h)
theorem cell_nil {ns : List Int} (h : ns = []) (k : Int) : m_law_cell ns k = m_tail (7919 * k + 11) k := congrArg (m_tail · k) (if_pos h)
theorem cell_lo (ns : List Int) (k : Int) : 0 ≤ m_law_cell ns k := Int.emod_nonneg _ (by decide)
theorem cell_hi (ns : List Int) (k : Int) : m_law_cell ns k < 2147483587 := Int.emod_lt_of_pos _ (by decide)
section
def S__law_cell (A : Ad) : DSp := fun ds μ kd _ => ∃ (ns : List Int) (k : Int), ds = [.fro (ns.map Dv.int), .int k] ∧ ns.length ≤ 63 ∧ kd (.int (m_law_cell ns k)) μ
end
/-! ### fields -/
theorem lookup_hit {f : Str} {x : Dv} {r : List (Str × Dv)} : (((f, x) :: r).lookup f) = some x := by rw [List.lookup_cons]; simp
theorem lookup_miss {f g : Str} {x : Dv} {r : List (Str × Dv)} (h : ¬ g = f) : (((f, x) :: r).lookup g) = r.lookup g := by
  rw [List.lookup_cons]
  have : (g == f) = false := by simpa using h
  rw [this]
theorem putD_nil {f : Str} {v : Dv} : putD f v [] = [(f, v)] := rfl
theorem putD_hit {f : Str} {v x : Dv} {r : List (Str × Dv)} : putD f v ((f, x) :: r) = (f, v) :: r := if_pos rfl
theorem putD_miss {f g : Str} {v x : Dv} {r : List (Str × Dv)} (h : ¬ g = f) : putD f v ((g, x) :: r) = (g, x) :: putD f v r := if_neg h
section
variable {K : Kf} {μ : M} {k : DK}
theorem d_eqOp (o : Option Int) {i : Int} (h : k (.bl (decide (o = some i))) μ) : DOp K (rEqA K) (opI o) (.int i) μ k := by
  cases o with
  | none => exact d_eqNI h
  | some j => exact d_eqI (by rw [show decide (some j = some i) = decide (j = i) by simp] at h; exact h)
theorem d_neOp (o : Option Int) {i : Int} (h : k (.bl (!decide (o = some i))) μ) : DOp K (rNeA K) (opI o) (.int i) μ k := by
  cases o with
  | none => exact d_neNI h
  | some j => exact d_neI (by rw [show decide (some j = some i) = decide (j = i) by simp] at h; exact h)
end
theorem putD_lt1 {f : Str} {v : Dv} : (putD f v []).length < 1000 := Nat.lt_of_le_of_lt (length_putD _ _ _) (by decide)
theorem putD_lt2 {f g : Str} {v w : Dv} : (putD f v (putD g w [])).length < 1000 := Nat.lt_of_le_of_lt (Nat.le_trans (length_putD _ _ _) (Nat.succ_le_succ (length_putD _ _ _))) (by decide)
theorem putD_lt3 {f g h : Str} {v w x : Dv} : (putD f v (putD g w (putD h x []))).length < 1000 := Nat.lt_of_le_of_lt (Nat.le_trans (length_putD _ _ _) (Nat.succ_le_succ (Nat.le_trans (length_putD _ _ _) (Nat.succ_le_succ (length_putD _ _ _))))) (by decide)
theorem putD_ltF {f : Str} {v : Dv} {fs : List (Str × Dv)} {m : Nat} (h : fs.length = m) (hm : m < 900) : (putD f v fs).length < 1000 := Nat.lt_of_le_of_lt (length_putD _ _ _) (by rw [h]; omega)
theorem len_ltE {fs : List (Str × Dv)} {m : Nat} (h : fs.length = m) (hm : m < 900) : fs.length < 1000 := by rw [h]; omega
theorem fm_if {α : Type} (P : α → Prop) [DecidablePred P] (f : α → Dv) (xs : List α) : xs.filterMap (fun p => if P p then some (f p) else none) = (xs.filter fun p => decide (P p)).map f := by
  induction xs with
  | nil => rfl
  | cons x r ih =>
    rw [List.filterMap_cons, List.filter_cons]
    by_cases h : P x
    · rw [if_pos h, if_pos (decide_eq_true h), List.map_cons, ← ih]
    · rw [if_neg h, if_neg (by simpa using h), ← ih]
theorem fm_some {α β : Type} (f : α → β) (xs : List α) : xs.filterMap (fun p => some (f p)) = xs.map f := by
  induction xs with
  | nil => rfl
  | cons x r ih => rw [List.filterMap_cons, List.map_cons, ← ih]
theorem fm_int {α : Type} (f : α → Int) (xs : List α) : xs.filterMap (fun p => some (Dv.int (f p))) = (xs.map f).map Dv.int := by
  rw [fm_some (fun p => Dv.int (f p)), List.map_map]; rfl
theorem map_item {α : Type} {f : α → Dv} {xs : List α} {j : Nat} {x : Dv} (h : (xs.map f)[j]? = some x) : ∃ p, xs[j]? = some p ∧ x = f p := by
  rw [List.getElem?_map] at h
  cases e : xs[j]? with
  | none => rw [e] at h; cases h
  | some p => rw [e] at h; cases h; exact ⟨p, rfl, rfl⟩
theorem drop_of_get {α : Type} {xs : List α} {j : Nat} {p : α} (h : xs[j]? = some p) : xs.drop j = p :: xs.drop (j + 1) := by
  obtain ⟨hj, e⟩ := List.getElem?_eq_some_iff.mp h
  rw [List.drop_eq_getElem_cons hj, e]
theorem and_dec {p q : Prop} [Decidable p] [Decidable q] (h : (decide p && decide q) = true) : p ∧ q := by
  rw [Bool.and_eq_true] at h
  exact ⟨of_decide_eq_true h.1, of_decide_eq_true h.2⟩
theorem nand_dec {p q : Prop} [Decidable p] [Decidable q] (h : (decide p && decide q) = false) : ¬ (p ∧ q) := fun ⟨a, b⟩ => by
  rw [decide_eq_true a, decide_eq_true b] at h
  cases h
theorem or_dec {p q : Prop} [Decidable p] [Decidable q] (h : (decide p || decide q) = true) : p ∨ q := by
  rw [Bool.or_eq_true] at h
  exact h.imp of_decide_eq_true of_decide_eq_true
theorem nor_dec {p q : Prop} [Decidable p] [Decidable q] (h : (decide p || decide q) = false) : ¬ p ∧ ¬ q := by
  rw [Bool.or_eq_false_iff] at h
  exact ⟨of_decide_eq_false h.1, of_decide_eq_false h.2⟩
theorem and_ndec {p q : Prop} [Decidable p] [Decidable q] (h : (decide p && !decide q) = true) : p ∧ ¬ q := by
  rw [Bool.and_eq_true] at h
  refine ⟨of_decide_eq_true h.1, fun z => ?_⟩
  have := h.2
  rw [decide_eq_true z] at this
  cases this
theorem nand_ndec {p q : Prop} [Decidable p] [Decidable q] (h : (decide p && !decide q) = false) : ¬ (p ∧ ¬ q) := fun ⟨a, b⟩ => by
  rw [decide_eq_true a, decide_eq_false b] at h
  cases h
section
variable {K : Kf} {μ : M} {k : DK}
theorem d_ixAny {xs : List Dv} {i : Int} (h0 : 0 ≤ i) (h1 : i < (xs.length : Int)) (h : ∀ d ∈ xs, k d μ) : DOp K (rIx K) (.lst xs) (.int i) μ k :=
  d_ixL (.lst _) (at_getD .non h0 h1) (h _ (by
    have hl : i.toNat < xs.length := by omega
    rw [List.getD_eq_getElem?_getD, List.getElem?_eq_getElem hl]
    exact List.getElem_mem _))
end
theorem nodup_take {α : Type} {xs : List α} {j : Nat} {a : α} (h : xs.Nodup) (ha : xs[j]? = some a) : a ∉ xs.take j := fun hm => by
  obtain ⟨i, hi⟩ := List.getElem?_of_mem hm
  have hil : i < j := by
    have := (List.getElem?_eq_some_iff.mp hi).1
    rw [List.length_take] at this; omega
  rw [List.getElem?_take, if_pos hil] at hi
  obtain ⟨h1, e1⟩ := List.getElem?_eq_some_iff.mp hi
  obtain ⟨h2, e2⟩ := List.getElem?_eq_some_iff.mp ha
  have := (List.nodup_iff_pairwise_ne.mp h)
  have hne := (List.pairwise_iff_getElem.mp this) i j h1 h2 hil
  exact hne (e1.trans e2.symm)
theorem take_succ_get {α : Type} {xs : List α} {j : Nat} {a : α} (ha : xs[j]? = some a) : xs.take (j + 1) = xs.take j ++ [a] := by
  rw [List.take_add_one, ha]; rfl

/-! ### jars and windows -/
def jarF (s f : Int) : List (Str × Dv) := putD "flow" (.int f) (putD "size" (.int s) [])
def winF (m s : Int) : List (Str × Dv) := putD "span" (.int s) (putD "most" (.int m) [])
theorem sf_ : ¬ (("size" : Str) = "flow") := by decide +kernel
theorem ms_ : ¬ (("most" : Str) = "span") := by decide +kernel
theorem jarF_size (s f : Int) : (jarF s f).lookup ("size" : Str) = some (.int s) := by unfold jarF; rw [lookup_putD, if_neg sf_, lookup_putD, if_pos rfl]
theorem jarF_flow (s f : Int) : (jarF s f).lookup ("flow" : Str) = some (.int f) := by unfold jarF; rw [lookup_putD, if_pos rfl]
theorem winF_most (s f : Int) : (winF s f).lookup ("most" : Str) = some (.int s) := by unfold winF; rw [lookup_putD, if_neg ms_, lookup_putD, if_pos rfl]
theorem winF_span (s f : Int) : (winF s f).lookup ("span" : Str) = some (.int f) := by unfold winF; rw [lookup_putD, if_pos rfl]
theorem jarF_no (s f : Int) {g : Str} (h1 : ¬ g = "flow") (h2 : ¬ g = "size") : (jarF s f).lookup g = none := by unfold jarF; rw [lookup_putD, if_neg h1, lookup_putD, if_neg h2]; rfl
theorem winF_no (s f : Int) {g : Str} (h1 : ¬ g = "span") (h2 : ¬ g = "most") : (winF s f).lookup g = none := by unfold winF; rw [lookup_putD, if_neg h1, lookup_putD, if_neg h2]; rfl
def Bd.pv (A : Ad) : Bd → Dv
  | .jar s f => .ins A.CJ (jarF s f)
  | .win m s => .ins A.CW (winF m s)
def Bd.cls (A : Ad) : Bd → Addr
  | .jar _ _ => A.CJ
  | .win _ _ => A.CW
def Bd.flds : Bd → List (Str × Dv)
  | .jar s f => jarF s f
  | .win m s => winF m s
/-- d is the bound b -/
def BdD (A : Ad) (μ : M) (d : Dv) (b : Bd) : Prop := InsD μ d (b.cls A) b.flds
theorem BdD.ext {A : Ad} {μ μ' : M} {d : Dv} {b : Bd} (h : BdD A μ d b) (e : ExtM μ μ') : BdD A μ' d b := InsD.ext h e
theorem BdD.pv (A : Ad) (μ : M) (b : Bd) : BdD A μ (b.pv A) b := by cases b <;> exact .ins _ _
section
def S_Jar_room (A : Ad) : DSp := fun ds μ kd _ => ∃ (d : Dv) (s f a b : Int), ds = [d, .int a, .int b] ∧ InsD μ d A.CJ (jarF s f) ∧ (Bd.jar s f).ok ∧ kd (opI ((Bd.jar s f).room a b)) μ
def S_Window_room (A : Ad) : DSp := fun ds μ kd _ => ∃ (d : Dv) (s f a b : Int), ds = [d, .int a, .int b] ∧ InsD μ d A.CW (winF s f) ∧ kd (opI ((Bd.win s f).room a b)) μ
end
section
variable {X : Cx} {W : WX} {KE : XD} {e o : Expr} {es : List Expr} {n : En} {μ : M} {k : DK} {pos apos : Pos} {kl : Nat} {A : Ad}
/-- bound.room(..) of any bound -/
theorem je_room {pl : Sem Bool} {j : Nat} (c : Cok kl X W) (MJ : DMet X.prog X.w X.K X.mg X.base j A.CJ "room" (S_Jar_room A) []) (MW : DMet X.prog X.w X.K X.mg X.base j A.CW "room" (S_Window_room A) []) (hj : j ≤ kl) (b : Bd) (ok : b.ok)
    (h : JE X W KE o n μ fun d μ1 => BdD A μ1 d b ∧ JA X W KE (e :: es) n μ1 fun ds μ2 => ∃ x y : Int, ds = [.int x, .int y] ∧ BdD A μ2 d b ∧ k (opI (b.room x y)) μ2)
    (hst : starEach (e :: es) X.env = (false, eval e X.env) :: starEach es X.env := by rfl) (hpl : (backTo pos (starEach es X.env)).any (·.1) = false := by rfl)
    (ht : eval (.Call (.Attribute o "room" apos) (e :: es) [] pos) X.env = (do
      let ov ← eval o X.env
      standAt apos.atName
      let (f, first) ← holding [ov] (getMethod ov "room" pl)
      callWith pos f first (backTo pos (starEach (e :: es) X.env)) (backToKw pos (keywordEach [] X.env))) := by rfl) : JE X W KE (.Call (.Attribute o "room" apos) (e :: es) [] pos) n μ k := by
  refine je_meth c (h.mono fun d μ1 ⟨e1, h1⟩ => ?_) hst hpl ht
  cases b with
  | jar s f => exact ⟨_, _, _, _, _, e1, jarF_no _ _ (by decide +kernel) (by decide +kernel), MJ, hj, fun σ H Q a b c d => h1 σ H Q a b c fun vs ds H' μ' ⟨x, y, e2, e3, hk⟩ => d vs ds H' μ' (by subst e2; exact ⟨_, s, f, x, y, rfl, e3, ok, hk⟩)⟩
  | win s f => exact ⟨_, _, _, _, _, e1, winF_no _ _ (by decide +kernel) (by decide +kernel), MW, hj, fun σ H Q a b c d => h1 σ H Q a b c fun vs ds H' μ' ⟨x, y, e2, e3, hk⟩ => d vs ds H' μ' (by subst e2; exact ⟨_, s, f, x, y, rfl, e3, hk⟩)⟩
end

section
def S_need_number (A : Ad) : DSp := fun ds μ kd _ => ∃ t l m : Int, ds = [.int t, .int l, .int m] ∧ l ≤ t ∧ t ≤ m ∧ kd .non μ
def S_Jar_init (A : Ad) : DSp := fun ds μ kd _ => ∃ (a : Addr) (s f : Int), ds = [.obj a, .int s, .int f] ∧ μ a = some (.ins A.CJ []) ∧ (Bd.jar s f).ok ∧ kd .non (updM μ a (.ins A.CJ (jarF s f)))
def S_Window_init (A : Ad) : DSp := fun ds μ kd _ => ∃ (a : Addr) (m s : Int), ds = [.obj a, .int m, .int s] ∧ μ a = some (.ins A.CW []) ∧ (Bd.win m s).ok ∧ kd .non (updM μ a (.ins A.CW (winF m s)))
end

/-! ### what the laws draw -/
def m_law_bound (c z : Int) : Bd :=
  if c % 2 = 0 then .jar ((1 + c / 24 % 20) * z) (min (([0, 1, 2, 3, 1, 2] : List Int).getD (c / 2 % 6).toNat 0 * ([1, z] : List Int).getD (c / 12 % 2).toNat 0) 1000000000)
  else .win ((1 + c / 2 % 20) * z + c / 40 % 2) (1 + c / 80 % ([6, 40] : List Int).getD (c / 3200 % 2).toNat 0)
def m_law_gap (c : Int) : Int := ([0, 0, 1, 1, 2, 3, c / 10 % 9, c / 10 % 60, 0, c / 10 % 1000000] : List Int).getD (c % 10).toNat 0
def m_law_cost (c z : Int) : Int := min 1000000000 (([1 + c % 6, 1, 1 + c / 3 % 20] : List Int).getD (c / 60 % 3).toNat 0 * z + c / 180 % 2 * (z / 2))
def m_law_scale (c : Int) : Int := ([1, 1, 1000, 1000000, 4 * 10000000] : List Int).getD (c % 5).toNat 0
theorem getD_all {P : Int → Prop} {d : Int} : ∀ {l : List Int} {i : Nat}, (∀ x ∈ l, P x) → i < l.length → P (l.getD i d)
  | x :: l, 0, h, _ => h x List.mem_cons_self
  | x :: l, i + 1, h, hl => getD_all (l := l) (i := i) (fun y hy => h y (List.mem_cons_of_mem _ hy)) (Nat.lt_of_succ_lt_succ hl)
theorem scale_ok (c : Int) : 1 ≤ m_law_scale c ∧ m_law_scale c ≤ 40000000 := by
  unfold m_law_scale
  have h0 := Int.emod_nonneg c (show (5 : Int) ≠ 0 by decide)
  have h1 := Int.emod_lt_of_pos c (show (0 : Int) < 5 by decide)
  exact getD_all (P := fun x => 1 ≤ x ∧ x ≤ 40000000) (by decide) (by simp; omega)
theorem gap_ok {c : Int} (h : 0 ≤ c) : 0 ≤ m_law_gap c ∧ m_law_gap c ≤ 1000000 := by
  unfold m_law_gap
  refine getD_all (P := fun x => 0 ≤ x ∧ x ≤ 1000000) ?_ (by simp; omega)
  intro x hx
  simp only [List.mem_cons, List.not_mem_nil, or_false] at hx
  rcases hx with rfl | rfl | rfl | rfl | rfl | rfl | rfl | rfl | rfl | rfl <;> omega
theorem mul_le_of {a b x y : Int} (h0 : 0 ≤ a) (h1 : a ≤ x) (h2 : 0 ≤ b) (h3 : b ≤ y) : 0 ≤ a * b ∧ a * b ≤ x * y :=
  ⟨Int.mul_nonneg h0 h2, Int.mul_le_mul h1 h3 h2 (Int.le_trans h0 h1)⟩
theorem cost_ok {c z : Int} (h : 0 ≤ c) (hz : 1 ≤ z) : 1 ≤ m_law_cost c z ∧ m_law_cost c z ≤ 1000000000 := by
  unfold m_law_cost
  have h1 : 1 ≤ ([1 + c % 6, 1, 1 + c / 3 % 20] : List Int).getD (c / 60 % 3).toNat 0 := by
    refine getD_all (P := fun x => 1 ≤ x) ?_ (by simp; omega)
    intro x hx
    simp only [List.mem_cons, List.not_mem_nil, or_false] at hx
    rcases hx with rfl | rfl | rfl <;> omega
  generalize ([1 + c % 6, 1, 1 + c / 3 % 20] : List Int).getD (c / 60 % 3).toNat 0 = m at h1
  have h2 : 1 * 1 ≤ m * z := Int.mul_le_mul h1 hz (by decide) (by omega)
  have h3 : 0 ≤ c / 180 % 2 * (z / 2) := Int.mul_nonneg (by omega) (by omega)
  generalize m * z = mz at *
  generalize c / 180 % 2 * (z / 2) = q at *
  omega
theorem bound_ok {c z : Int} (h : 0 ≤ c) (hz : 1 ≤ z) (hz2 : z ≤ 40000000) : (m_law_bound c z).ok := by
  unfold m_law_bound
  split
  · show (1 ≤ _ ∧ _ ≤ _) ∧ 0 ≤ _ ∧ _ ≤ _
    have h1 : 0 ≤ ([0, 1, 2, 3, 1, 2] : List Int).getD (c / 2 % 6).toNat 0 := getD_all (P := fun x => 0 ≤ x) (by decide) (by simp; omega)
    have h2 : 0 ≤ ([1, z] : List Int).getD (c / 12 % 2).toNat 0 := getD_all (P := fun x => 0 ≤ x) (by intro x hx; simp only [List.mem_cons, List.not_mem_nil, or_false] at hx; rcases hx with rfl | rfl <;> omega) (by simp; omega)
    have h3 := Int.mul_nonneg h1 h2
    have h4 : 1 * 1 ≤ (1 + c / 24 % 20) * z := Int.mul_le_mul (by omega) hz (by decide) (by omega)
    have h5 := (mul_le_of (a := 1 + c / 24 % 20) (b := z) (x := 20) (y := 40000000) (by omega) (by omega) (by omega) (by omega)).2
    omega
  · show (1 ≤ _ ∧ _ ≤ _) ∧ 1 ≤ _ ∧ _ ≤ _
    have h4 : 1 * 1 ≤ (1 + c / 2 % 20) * z := Int.mul_le_mul (by omega) hz (by decide) (by omega)
    have h5 := (mul_le_of (a := 1 + c / 2 % 20) (b := z) (x := 20) (y := 40000000) (by omega) (by omega) (by omega) (by omega)).2
    have h6 : 1 ≤ ([6, 40] : List Int).getD (c / 3200 % 2).toNat 0 ∧ ([6, 40] : List Int).getD (c / 3200 % 2).toNat 0 ≤ 40 := getD_all (P := fun x => 1 ≤ x ∧ x ≤ 40) (by decide) (by simp; omega)
    generalize ([6, 40] : List Int).getD (c / 3200 % 2).toNat 0 = q at *
    have h7 := Int.emod_nonneg (c / 80) (show q ≠ 0 by omega)
    have h8 := Int.emod_lt_of_pos (c / 80) (show 0 < q by omega)
    omega
/-- a bound of the law, as its tuple tells it -/
def Bd.kind : Bd → Str
  | .jar _ _ => "jar"
  | .win _ _ => "window"
def Bd.sz : Bd → Int
  | .jar s _ => s
  | .win m _ => m
def Bd.par : Bd → Int
  | .jar _ f => f
  | .win _ s => s
def Bd.mulS (q : Int) : Bd → Bd
  | .jar s f => .jar (s * q) f
  | .win m s => .win (m * q) s
theorem Bd.tv_mulS (q : Int) (b : Bd) : Dv.tup [.str b.kind, .int (b.sz * q), .int b.par] = (b.mulS q).tv := by cases b <;> rfl
theorem Bd.ok_mulS {q : Int} {b : Bd} (h : b.ok) (hs : b.sz ≤ 100000000000000) (h1 : 1 ≤ q) (h2 : q ≤ 10) : (b.mulS q).ok := by
  cases b with
  | jar s f =>
    obtain ⟨⟨a1, a2⟩, a3⟩ := h
    have z1 : 1 * 1 ≤ s * q := Int.mul_le_mul a1 h1 (by decide) (by omega)
    have z2 : s * q ≤ 100000000000000 * 10 := Int.mul_le_mul hs h2 (by omega) (by decide)
    exact ⟨⟨by omega, by omega⟩, a3⟩
  | win s f =>
    obtain ⟨⟨a1, a2⟩, a3⟩ := h
    have z1 : 1 * 1 ≤ s * q := Int.mul_le_mul a1 h1 (by decide) (by omega)
    have z2 : s * q ≤ 100000000000000 * 10 := Int.mul_le_mul hs h2 (by omega) (by decide)
    exact ⟨⟨by omega, by omega⟩, a3⟩
theorem Bd.ok.lo {b : Bd} (h : b.ok) : 1 ≤ b.sz := by cases b <;> exact h.1.1
theorem Bd.ok.hi {b : Bd} (h : b.ok) : b.sz ≤ 1000000000000000 := by cases b <;> exact h.1.2
theorem bound_sz {c z : Int} (h : 0 ≤ c) (hz : 1 ≤ z) (hz2 : z ≤ 40000000) : (m_law_bound c z).sz ≤ 1000000000 := by
  unfold m_law_bound
  split
  · have h5 := (mul_le_of (a := 1 + c / 24 % 20) (b := z) (x := 20) (y := 40000000) (by omega) (by omega) (by omega) (by omega)).2
    show (1 + c / 24 % 20) * z ≤ _
    omega
  · have h5 := (mul_le_of (a := 1 + c / 2 % 20) (b := z) (x := 20) (y := 40000000) (by omega) (by omega) (by omega) (by omega)).2
    show (1 + c / 2 % 20) * z + c / 40 % 2 ≤ _
    omega
section
variable {K : Kf} {μ : M} {k : DK}
theorem d_ixB0 {b : Bd} (h : k (.str b.kind) μ) : DOp K (rIx K) b.tv (.int 0) μ k := by cases b <;> exact d_ixT rfl h
theorem d_ixB1 {b : Bd} (h : k (.int b.sz) μ) : DOp K (rIx K) b.tv (.int 1) μ k := by cases b <;> exact d_ixT rfl h
theorem d_ixB2 {b : Bd} (h : k (.int b.par) μ) : DOp K (rIx K) b.tv (.int 2) μ k := by cases b <;> exact d_ixT rfl h
end
/-- moments and visits, as a law draws them: cells from o on, g apart -/
def m_mom (ns : List Int) (o g : Int) (m0 : Int) : Nat → Int
  | 0 => m0
  | j + 1 => m_mom ns o g m0 j + m_law_gap (m_law_cell ns (o + g * (j : Int)))
section
def S__law_bound (A : Ad) : DSp := fun ds μ kd _ => ∃ c z : Int, ds = [.int c, .int z] ∧ 0 ≤ c ∧ 1 ≤ z ∧ z ≤ 40000000 ∧ kd (m_law_bound c z).tv μ
def S__law_gap (A : Ad) : DSp := fun ds μ kd _ => ∃ c : Int, ds = [.int c] ∧ kd (.int (m_law_gap c)) μ
def S__law_cost (A : Ad) : DSp := fun ds μ kd _ => ∃ c z : Int, ds = [.int c, .int z] ∧ 0 ≤ c ∧ 1 ≤ z ∧ z ≤ 40000000 ∧ kd (.int (m_law_cost c z)) μ
def S__law_scale (A : Ad) : DSp := fun ds μ kd _ => ∃ c : Int, ds = [.int c] ∧ kd (.int (m_law_scale c)) μ
end

section
def S__law_room (A : Ad) : DSp := fun ds μ kd _ => ∃ (b : Bd) (f l : Int), ds = [b.tv, .int f, .int l] ∧ b.ok ∧ kd (opI (b.room f l)) μ
end

/-! ### visits -/
abbrev Vs := List (Int × Int)
def vAt (vs : Vs) (i : Nat) : Int × Int := vs.getD i (0, 0)
theorem rng_item {lo : Int} {n j : Nat} {x : Dv} (h : (Src.rng lo n).items[j]? = some x) : x = .int (lo + (j : Int)) ∧ j < n := by
  have h' : ((List.range n).map fun (i : Nat) => Dv.int (lo + (i : Int)))[j]? = some x := h
  rw [List.getElem?_map] at h'
  by_cases z : j < n
  · rw [List.getElem?_range z] at h'
    cases h'
    exact ⟨rfl, z⟩
  · rw [List.getElem?_eq_none (by simpa using z)] at h'; cases h'
theorem rng_len {lo : Int} {n : Nat} : (Src.rng lo n).items.length = n := by simp [Src.items]
theorem rng_item0 {n j : Nat} {x : Dv} (h : (Src.rng 0 n).items[j]? = some x) : x = .int (j : Int) ∧ j < n := by
  have := rng_item h
  rw [Int.zero_add] at this
  exact this
section
variable {K : Kf} {μ : M} {k : DK}
theorem d_ixV (j : Nat) {vs : Vs} {i : Int} (e : i = (j : Int)) (h : j < vs.length) (hk : k (.tup [.int (vAt vs j).1, .int (vAt vs j).2]) μ) : DOp K (rIx K) (.lst (vs.map encV.dv)) (.int i) μ k := by
  refine d_ixMap encV.dv vs (0, 0) (.lst _) (by omega) (by omega) ?_
  rw [show i.toNat = j by omega]
  exact hk
theorem d_ixVx {x : Dv} {vs : Vs} (l : SqD μ x (vs.map encV.dv)) (j : Nat) {i : Int} (e : i = (j : Int)) (h : j < vs.length) (hk : k (.tup [.int (vAt vs j).1, .int (vAt vs j).2]) μ) : DOp K (rIx K) x (.int i) μ k := by
  refine d_ixMap encV.dv vs (0, 0) l (by omega) (by omega) ?_
  rw [show i.toNat = j by omega]
  exact hk
end

/-! ### broken stretches -/
def usedL (vs : Vs) (a i : Nat) : Int := (((vs.drop a).take i).map (·.2)).sum
def usedAE (vs : Vs) (a e : Nat) : Int := usedL vs a (e + 1 - a)
def isLast (vs : Vs) (e : Nat) : Bool := decide (e + 1 = vs.length) || decide ((vAt vs e).1 < (vAt vs (e + 1)).1)
def over (b : Bd) (vs : Vs) (a e : Nat) : Bool := match b.room (vAt vs a).1 (vAt vs e).1 with
  | none => false
  | some r => decide (r < usedAE vs a e)
def brk (b : Bd) (vs : Vs) (a e : Nat) : Bool := isLast vs e && over b vs a e
def isFst (vs : Vs) (a : Nat) : Bool := !(decide (0 < a) && decide ((vAt vs (a - 1)).1 = (vAt vs a).1))
def strAE (vs : Vs) (a e : Nat) : Int × Int := ((vAt vs a).1, (vAt vs e).1)
def rowB (b : Bd) (vs : Vs) (a i : Nat) : Vs := ((List.range' a i).filter (brk b vs a)).map (strAE vs a)
def brokenTo (b : Bd) (vs : Vs) (j : Nat) : Vs := ((List.range j).filter (isFst vs)).flatMap fun a => rowB b vs a (vs.length - a)
def brokenAll (b : Bd) (vs : Vs) : Vs := brokenTo b vs vs.length
def brokenF (b : Bd) (vs : Vs) : Option (Int × Int) := (brokenAll b vs).head?
theorem rowB_succ (b : Bd) (vs : Vs) (a i : Nat) : rowB b vs a (i + 1) = rowB b vs a i ++ (if brk b vs a (a + i) = true then [strAE vs a (a + i)] else []) := by
  unfold rowB
  rw [List.range'_concat, List.filter_append, List.map_append]
  congr 1
  rw [show a + 1 * i = a + i by omega, List.filter_cons]
  split <;> rfl
theorem brokenTo_succ (b : Bd) (vs : Vs) (j : Nat) : brokenTo b vs (j + 1) = brokenTo b vs j ++ (if isFst vs j = true then rowB b vs j (vs.length - j) else []) := by
  unfold brokenTo
  rw [List.range_succ, List.filter_append, List.flatMap_append]
  congr 1
  rw [List.filter_cons]
  split
  · simp
  · rfl
theorem usedL_succ {vs : Vs} {a i : Nat} (h : a + i < vs.length) : usedL vs a (i + 1) = usedL vs a i + (vAt vs (a + i)).2 := by
  unfold usedL vAt
  rw [List.take_add_one, List.map_append, List.sum_append, List.getElem?_drop, List.getElem?_eq_getElem h, List.getD_eq_getElem?_getD, List.getElem?_eq_getElem h]
  simp
theorem rowB_len (b : Bd) (vs : Vs) (a i : Nat) : (rowB b vs a i).length ≤ i := by
  unfold rowB
  rw [List.length_map]
  have := List.length_filter_le (brk b vs a) (List.range' a i)
  simpa using this
theorem brokenTo_len (b : Bd) (vs : Vs) (j : Nat) : (brokenTo b vs j).length ≤ j * vs.length := by
  induction j with
  | zero => simp [brokenTo]
  | succ j ih =>
    rw [brokenTo_succ, List.length_append, Nat.succ_mul]
    have h2 : (if isFst vs j = true then rowB b vs j (vs.length - j) else []).length ≤ vs.length := by
      split
      · have := rowB_len b vs j (vs.length - j); omega
      · simp
    omega
section
def S_broken_all (A : Ad) : DSp := fun ds μ kd _ => ∃ (b : Bd) (d : Dv) (vs : Vs), ds = [d, .lst (vs.map encV.dv)] ∧ BdD A μ d b ∧ b.ok ∧ vs.length ≤ 1000 ∧ kd (.lst ((brokenAll b vs).map encV.dv)) μ
def oV : Option (Int × Int) → Dv
  | none => .non
  | some p => encV.dv p
def S_broken (A : Ad) : DSp := fun ds μ kd _ => ∃ (b : Bd) (d : Dv) (vs : Vs), ds = [d, .lst (vs.map encV.dv)] ∧ BdD A μ d b ∧ b.ok ∧ vs.length ≤ 1000 ∧ kd (oV (brokenF b vs)) μ
end

/-! ### the law's own first broken stretch -/
def firstE (b : Bd) (vs : Vs) (a i : Nat) : Option (Int × Int) := ((List.range' a i).find? (brk b vs a)).map (strAE vs a)
def lawFirst (b : Bd) (vs : Vs) : Option (Int × Int) := (List.range vs.length).findSome? fun a => firstE b vs a (vs.length - a)
theorem find_none_succ {b : Bd} {vs : Vs} {j i : Nat} (h : firstE b vs j i = none) (hb : ¬ brk b vs j (j + i) = true) : firstE b vs j (i + 1) = none := by
  unfold firstE at h ⊢
  rw [Option.map_eq_none_iff] at h ⊢
  rw [List.range'_concat, List.find?_append, h, Option.none_or, show j + 1 * i = j + i by omega, List.find?_cons]
  cases z : brk b vs j (j + i) with
  | true => exact absurd z hb
  | false => rfl
theorem firstE_hit {b : Bd} {vs : Vs} {j i : Nat} (h : firstE b vs j i = none) (hb : brk b vs j (j + i) = true) (hl : j + i < vs.length) : firstE b vs j (vs.length - j) = some (strAE vs j (j + i)) := by
  unfold firstE at h ⊢
  rw [Option.map_eq_none_iff] at h
  have e : vs.length - j = i + (1 + (vs.length - j - i - 1)) := by omega
  rw [e, ← List.range'_append_1, List.find?_append, h, Option.none_or, Nat.add_comm 1, List.range'_succ, List.find?_cons, hb]
  rfl
theorem lawFirst_hit {b : Bd} {vs : Vs} {j : Nat} {p : Int × Int} (hp : ∀ a, a < j → firstE b vs a (vs.length - a) = none) (h : firstE b vs j (vs.length - j) = some p) (hl : j < vs.length) : lawFirst b vs = some p := by
  unfold lawFirst
  have e : vs.length = j + (1 + (vs.length - j - 1)) := by omega
  have e2 : (List.range vs.length) = List.range j ++ (j :: List.range' (j + 1) (vs.length - j - 1)) := by
    rw [List.range_eq_range', List.range_eq_range']
    conv => lhs; rw [e]
    rw [← List.range'_append_1, Nat.add_comm 1, List.range'_succ, Nat.zero_add]
  rw [e2, List.findSome?_append, List.findSome?_cons, h]
  have : (List.range j).findSome? (fun a => firstE b vs a (vs.length - a)) = none := by
    rw [List.findSome?_eq_none_iff]
    intro a ha
    exact hp a (List.mem_range.mp ha)
  rw [this]
  rfl
theorem lawFirst_none {b : Bd} {vs : Vs} (hp : ∀ a, a < vs.length → firstE b vs a (vs.length - a) = none) : lawFirst b vs = none := by
  unfold lawFirst
  rw [List.findSome?_eq_none_iff]
  intro a ha
  exact hp a (List.mem_range.mp ha)
theorem rowB_head (b : Bd) (vs : Vs) (a i : Nat) : (rowB b vs a i).head? = firstE b vs a i := by
  unfold rowB firstE
  rw [List.head?_map, List.head?_filter]
theorem brokenF_eq (b : Bd) (vs : Vs) : brokenF b vs = ((List.range vs.length).filter (isFst vs)).findSome? fun a => firstE b vs a (vs.length - a) := by
  unfold brokenF brokenAll brokenTo
  rw [List.head?_flatMap]
  congr 1
  funext a
  exact rowB_head b vs a _
theorem usedL_nonneg {vs : Vs} (hp : ∀ p ∈ vs, 0 ≤ p.2) (a i : Nat) : 0 ≤ usedL vs a i := by
  unfold usedL
  have h : ∀ x ∈ ((vs.drop a).take i).map (·.2), 0 ≤ x := by
    intro x hx
    obtain ⟨p, hp1, rfl⟩ := List.mem_map.mp hx
    exact hp p (List.mem_of_mem_drop (List.mem_of_mem_take hp1))
  generalize ((vs.drop a).take i).map (·.2) = l at h
  induction l with
  | nil => simp
  | cons x r ih =>
    rw [List.sum_cons]
    have h1 := h x List.mem_cons_self
    have h2 := ih fun y hy => h y (List.mem_cons_of_mem _ hy)
    omega
theorem usedL_pred {vs : Vs} {a i : Nat} (h : a < vs.length) : usedL vs a (i + 1) = (vAt vs a).2 + usedL vs (a + 1) i := by
  unfold usedL vAt
  rw [List.drop_eq_getElem_cons h, List.take_succ_cons, List.map_cons, List.sum_cons, List.getD_eq_getElem?_getD, List.getElem?_eq_getElem h]
  rfl
theorem brk_pred {b : Bd} {vs : Vs} (hp : ∀ p ∈ vs, 0 ≤ p.2) {a e : Nat} (h1 : a + 1 ≤ e) (h2 : e < vs.length) (hf : (vAt vs a).1 = (vAt vs (a + 1)).1) (h : brk b vs (a + 1) e = true) : brk b vs a e = true := by
  unfold brk at h ⊢
  rw [Bool.and_eq_true] at h ⊢
  refine ⟨h.1, ?_⟩
  have h3 := h.2
  unfold over at h3 ⊢
  rw [hf]
  cases hr : b.room (vAt vs (a + 1)).1 (vAt vs e).1 with
  | none => rw [hr] at h3; cases h3
  | some r =>
    rw [hr] at h3
    have h4 : r < usedAE vs (a + 1) e := of_decide_eq_true h3
    refine decide_eq_true ?_
    unfold usedAE at h4 ⊢
    have e1 : e + 1 - a = (e + 1 - (a + 1)) + 1 := by omega
    rw [e1, usedL_pred (by omega)]
    have h5 : 0 ≤ (vAt vs a).2 := by
      unfold vAt
      rw [List.getD_eq_getElem?_getD, List.getElem?_eq_getElem (show a < vs.length by omega)]
      exact hp _ (List.getElem_mem _)
    omega
/-- the beginnings that are no first ones tell nothing new -/
theorem firstE_none {b : Bd} {vs : Vs} (hp : ∀ p ∈ vs, 0 ≤ p.2) {a : Nat} (h : a + 1 < vs.length) (hf : isFst vs (a + 1) = false) (hn : firstE b vs a (vs.length - a) = none) : firstE b vs (a + 1) (vs.length - (a + 1)) = none := by
  unfold firstE at hn ⊢
  rw [Option.map_eq_none_iff, List.find?_eq_none] at hn ⊢
  intro e he hb
  have he' : a + 1 ≤ e ∧ e < vs.length := by
    have := List.mem_range'_1.mp he
    omega
  unfold isFst at hf
  have hf2 : (vAt vs a).1 = (vAt vs (a + 1)).1 := by
    have h3 : (decide (0 < a + 1) && decide ((vAt vs (a + 1 - 1)).1 = (vAt vs (a + 1)).1)) = true := by
      cases z : (decide (0 < a + 1) && decide ((vAt vs (a + 1 - 1)).1 = (vAt vs (a + 1)).1)) with
      | true => rfl
      | false => rw [z] at hf; cases hf
    rw [Bool.and_eq_true] at h3
    exact of_decide_eq_true h3.2
  exact hn e (List.mem_range'_1.mpr (by omega)) (brk_pred hp he'.1 he'.2 hf2 hb)
theorem first_eq {b : Bd} {vs : Vs} (hp : ∀ p ∈ vs, 0 ≤ p.2) : lawFirst b vs = brokenF b vs := by
  rw [brokenF_eq]
  unfold lawFirst
  have key : ∀ j, j ≤ vs.length → (List.range j).findSome? (fun a => firstE b vs a (vs.length - a)) = ((List.range j).filter (isFst vs)).findSome? (fun a => firstE b vs a (vs.length - a)) ∧
      ((List.range j).findSome? (fun a => firstE b vs a (vs.length - a)) = none → ∀ i, i < j → firstE b vs i (vs.length - i) = none) := by
    intro j
    induction j with
    | zero => intro _; exact ⟨rfl, fun _ i hi => absurd hi (Nat.not_lt_zero _)⟩
    | succ j ih =>
      intro hj
      obtain ⟨ih1, ih2⟩ := ih (by omega)
      rw [List.range_succ, List.findSome?_append, List.filter_append, List.findSome?_append, ← ih1]
      constructor
      · cases hc : (List.range j).findSome? (fun a => firstE b vs a (vs.length - a)) with
        | some v => rfl
        | none =>
          rw [Option.none_or, Option.none_or]
          by_cases hf : isFst vs j = true
          · rw [List.filter_cons, if_pos hf]; rfl
          · rw [List.filter_cons, if_neg hf]
            cases j with
            | zero => exact absurd (by unfold isFst; rfl) hf
            | succ j =>
              have := firstE_none hp (a := j) (by omega) (by simpa using hf) (ih2 hc j (by omega))
              simp [List.findSome?, this]
      · intro hn i hi
        rw [Option.or_eq_none_iff] at hn
        by_cases hij : i < j
        · exact ih2 hn.1 i hij
        · have : i = j := by omega
          subst this
          have h3 := hn.2
          simp only [List.findSome?_cons, List.findSome?_nil] at h3
          cases hc : firstE b vs i (vs.length - i) with
          | none => rfl
          | some v => rw [hc] at h3; cases h3
  exact (key vs.length (Nat.le_refl _)).1
section
def S__law_first (A : Ad) : DSp := fun ds μ kd _ => ∃ (b : Bd) (vs : Vs), ds = [b.tv, .lst (vs.map encV.dv)] ∧ b.ok ∧ vs.length ≤ 1000 ∧ kd (oV (lawFirst b vs)) μ
end

/-! ### pairs of lists -/
inductive All2 {α β : Type} (R : α → β → Prop) : List α → List β → Prop where
  | nil : All2 R [] []
  | cons {a : α} {b : β} {as : List α} {bs : List β} (h : R a b) (t : All2 R as bs) : All2 R (a :: as) (b :: bs)
theorem All2.mono {α β : Type} {R S : α → β → Prop} (m : ∀ a b, R a b → S a b) : ∀ {as : List α} {bs : List β}, All2 R as bs → All2 S as bs
  | _, _, .nil => .nil
  | _, _, .cons h t => .cons (m _ _ h) (t.mono m)
theorem All2.length {α β : Type} {R : α → β → Prop} : ∀ {as : List α} {bs : List β}, All2 R as bs → as.length = bs.length
  | _, _, .nil => rfl
  | _, _, .cons _ t => congrArg (· + 1) t.length
theorem All2.get {α β : Type} {R : α → β → Prop} : ∀ {as : List α} {bs : List β} {i : Nat} {a : α}, All2 R as bs → as[i]? = some a → ∃ b, bs[i]? = some b ∧ R a b
  | _, _, 0, _, .cons h _, e => by cases e; exact ⟨_, rfl, h⟩
  | _, _, i + 1, _, .cons _ t, e => t.get (i := i) e
theorem All2.get' {α β : Type} {R : α → β → Prop} : ∀ {as : List α} {bs : List β} {i : Nat} {b : β}, All2 R as bs → bs[i]? = some b → ∃ a, as[i]? = some a ∧ R a b
  | _, _, 0, _, .cons h _, e => by cases e; exact ⟨_, rfl, h⟩
  | _, _, i + 1, _, .cons _ t, e => t.get' (i := i) e
theorem All2.append {α β : Type} {R : α → β → Prop} : ∀ {as cs : List α} {bs ds : List β}, All2 R as bs → All2 R cs ds → All2 R (as ++ cs) (bs ++ ds)
  | _, _, _, _, .nil, q => q
  | _, _, _, _, .cons h t, q => .cons h (t.append q)
theorem All2.monoIn {α β : Type} {R S : α → β → Prop} : ∀ {as : List α} {bs : List β}, (∀ a b, a ∈ as → R a b → S a b) → All2 R as bs → All2 S as bs
  | _, _, _, .nil => .nil
  | _, _, m, .cons h t => .cons (m _ _ List.mem_cons_self h) (t.monoIn fun a b ha => m a b (List.mem_cons_of_mem _ ha))
theorem all2_get {α β : Type} {R : α → β → Prop} : ∀ {as : List α} {bs : List β}, as.length = bs.length → (∀ (j : Nat) (a : α) (b : β), as[j]? = some a → bs[j]? = some b → R a b) → All2 R as bs
  | [], [], _, _ => .nil
  | a :: as, b :: bs, h, r => .cons (r 0 a b rfl rfl) (all2_get (Nat.succ.inj h) fun j x y p q => r (j + 1) x y p q)
theorem All2.zip {α β : Type} {R : α → β → Prop} : ∀ {as : List α} {bs : List β}, All2 R as bs → ∃ ps : List (α × β), ps.map (·.1) = as ∧ ps.map (·.2) = bs ∧ ∀ p ∈ ps, R p.1 p.2
  | _, _, .nil => ⟨[], rfl, rfl, fun p h => (nomatch h)⟩
  | a :: as, b :: bs, .cons h t => by
    obtain ⟨ps, e1, e2, e3⟩ := t.zip
    refine ⟨(a, b) :: ps, by rw [List.map_cons, e1], by rw [List.map_cons, e2], fun p hp => ?_⟩
    rcases List.mem_cons.mp hp with rfl | hp
    · exact h
    · exact e3 p hp

/-! ### numbers and odd things -/
inductive Thing (μ : M) : Dv → Option Int → Prop where
  | int (i : Int) : Thing μ (.int i) (some i)
  | non : Thing μ .non none
  | bl (b : Bool) : Thing μ (.bl b) none
  | str (s : Str) : Thing μ (.str s) none
  | tup (xs : List Dv) : Thing μ (.tup xs) none
  | lst (xs : List Dv) : Thing μ (.lst xs) none
  | dic {a : Addr} {kvs : List (Key × Dv)} (h : μ a = some (.dic kvs)) : Thing μ (.obj a) none
theorem ext_new {μ : M} {a : Addr} {o : MO} (h : μ a = none) : ExtM μ (updM μ a o) := fun b u e => by rw [updM_ne (ne_ofM e h)]; exact e
theorem Thing.ext {μ μ' : M} {d : Dv} {v : Option Int} (h : Thing μ d v) (e : ExtM μ μ') : Thing μ' d v := by
  cases h with
  | int => exact .int _
  | non => exact .non
  | bl => exact .bl _
  | str => exact .str _
  | tup => exact .tup _
  | lst => exact .lst _
  | dic h => exact .dic (e _ _ h)
def goodB (v : Option Int) (l m : Int) : Bool := match v with
  | none => false
  | some i => decide (l ≤ i) && decide (i ≤ m)
theorem goodB_some {v : Option Int} {l m : Int} (h : goodB v l m = true) : ∃ i, v = some i ∧ l ≤ i ∧ i ≤ m := by
  cases v with
  | none => cases h
  | some i => exact ⟨i, rfl, and_dec h⟩
/-- the tests isinstance(x, int), isinstance(x, bool) -/
def isIntD : Dv → Bool
  | .int _ => true
  | .bl _ => true
  | _ => false
def isBoolD : Dv → Bool
  | .bl _ => true
  | _ => false
section
variable {K : Kf} {μ : M} {k : DK} {X : Cx}
theorem d_isInt {d : Dv} {v : Option Int} (t : Thing μ d v) (h : k (.bl (isIntD d)) μ) : DCl K (rIsiA K) [d, .ty "int"] μ k := by
  cases t with
  | int i => exact d_isi (.int _) (.ty _) (kit_ty (r := true) (by decide +kernel)) h
  | non => exact d_isi .non (.ty _) (kit_ty (r := false) (by decide +kernel)) h
  | bl => exact d_isi (.bl _) (.ty _) (kit_ty (r := true) (by decide +kernel)) h
  | str => exact d_isi (.str _) (.ty _) (kit_ty (r := false) (by decide +kernel)) h
  | tup => exact d_isi (.tup _) (.ty _) (kit_ty (r := false) (by decide +kernel)) h
  | lst => exact d_isi (.lst _) (.ty _) (kit_ty (r := false) (by decide +kernel)) h
  | dic hd => exact d_isi (.dicM hd) (.ty _) (kit_ty (r := false) (by decide +kernel)) h
theorem d_isBool {d : Dv} {v : Option Int} (t : Thing μ d v) (h : k (.bl (isBoolD d)) μ) : DCl K (rIsiA K) [d, .ty "bool"] μ k := by
  cases t with
  | int i => exact d_isi (.int _) (.ty _) (kit_ty (r := false) (by decide +kernel)) h
  | non => exact d_isi .non (.ty _) (kit_ty (r := false) (by decide +kernel)) h
  | bl => exact d_isi (.bl _) (.ty _) (kit_ty (r := true) (by decide +kernel)) h
  | str => exact d_isi (.str _) (.ty _) (kit_ty (r := false) (by decide +kernel)) h
  | tup => exact d_isi (.tup _) (.ty _) (kit_ty (r := false) (by decide +kernel)) h
  | lst => exact d_isi (.lst _) (.ty _) (kit_ty (r := false) (by decide +kernel)) h
  | dic hd => exact d_isi (.dicM hd) (.ty _) (kit_ty (r := false) (by decide +kernel)) h
end
theorem Thing.odd {μ : M} {d : Dv} (t : Thing μ d none) : (!isIntD d || isBoolD d) = true := by cases t <;> rfl
theorem Thing.num {μ : M} {d : Dv} {i : Int} (t : Thing μ d (some i)) : d = .int i := by cases t; rfl

/-! ### what may be a bound, a moment, a cost -/
inductive BthD (A : Ad) (μ : M) : Dv → Option Bd → Prop where
  | bd (d : Dv) (b : Bd) (h : BdD A μ d b) (ok : b.ok) : BthD A μ d (some b)
  | non : BthD A μ .non none
  | int (i : Int) : BthD A μ (.int i) none
  | bl (b : Bool) : BthD A μ (.bl b) none
  | str (x : Str) : BthD A μ (.str x) none
  | lst (xs : List Dv) : BthD A μ (.lst xs) none
  | tup (xs : List Dv) : BthD A μ (.tup xs) none
theorem BthD.ext {A : Ad} {μ μ' : M} {d : Dv} {b : Option Bd} (h : BthD A μ d b) (e : ExtM μ μ') : BthD A μ' d b := by
  cases h with
  | bd d b h ok => exact .bd _ _ (h.ext e) ok
  | non => exact .non
  | int => exact .int _
  | bl => exact .bl _
  | str => exact .str _
  | lst => exact .lst _
  | tup => exact .tup _
def goodBs (ys : List (Option Bd)) (m : Int) : Bool := decide ((ys.length : Int) ≤ m) && ys.all Option.isSome
theorem goodBs_some {bs : List Bd} {m : Int} (h : (bs.length : Int) ≤ m) : goodBs (bs.map some) m = true := by
  unfold goodBs
  rw [List.length_map, decide_eq_true h, List.all_map]
  simp [List.all_eq_true]
theorem goodBs_bdsD {A : Ad} {μ : M} : ∀ {xs : List Dv} {ys : List (Option Bd)}, All2 (BthD A μ) xs ys → ys.all Option.isSome = true → ∃ bs : List Bd, ys = bs.map some ∧ All2 (BdD A μ) xs bs ∧ ∀ b ∈ bs, b.ok
  | _, _, .nil, _ => ⟨[], rfl, .nil, fun b h => (nomatch h)⟩
  | x :: xs, none :: ys, .cons h t, e => by simp at e
  | x :: xs, some b :: ys, .cons h t, e => by
    cases h with
    | bd _ _ h ok =>
    obtain ⟨bs, e2, e3, e4⟩ := goodBs_bdsD t (by simpa using e)
    refine ⟨b :: bs, by rw [e2]; rfl, .cons h e3, fun c hc => ?_⟩
    rcases List.mem_cons.mp hc with rfl | hc
    · exact ok
    · exact e4 c hc
theorem bthD_bds {A : Ad} {μ : M} {xs : List Dv} {bs : List Bd} (h : All2 (BdD A μ) xs bs) (ok : ∀ b ∈ bs, b.ok) : All2 (BthD A μ) xs (bs.map some) := by
  induction h with
  | nil => exact .nil
  | cons h t ih => exact .cons (.bd _ _ h (ok _ List.mem_cons_self)) (ih fun b hb => ok b (List.mem_cons_of_mem _ hb))
theorem fm_bl {α : Type} (f : α → Bool) (xs : List α) : xs.filterMap (fun p => some (Dv.bl (f p))) = (xs.map f).map Dv.bl := by
  rw [fm_some (fun p => Dv.bl (f p)), List.map_map]; rfl
section
variable {K : Kf} {mg : Str → Option Value} {A : Ad} {μ : M} {k : DK}
theorem d_isBthD (T : Txt K mg A) {d : Dv} {o : Option Bd} (t : BthD A μ d o) (h : k (.bl o.isSome) μ) : DCl K (rIsiA K) [d, .tup [.obj A.CJ, .obj A.CW]] μ k := by
  have no : ∀ {v : Value}, TyD K μ d v → PySem.W.kitOne K v (.ref A.CJ) = some false → PySem.W.kitOne K v (.ref A.CW) = some false → o = none → DCl K (rIsiA K) [d, .tup [.obj A.CJ, .obj A.CW]] μ k := fun tv k1 k2 e =>
    d_isiT tv (.cons (.own _) (.cons (.own _) .nil)) (kitAny_cons k1 (fun _ => kitAny_cons k2 (fun _ => rfl) fun z => nomatch z) fun z => nomatch z) (by subst e; exact h)
  cases t with
  | bd d b i ok =>
    cases b with
    | jar s f => exact d_isiT (.ins i T.cl_Jar T.ic_Jar T.isn T.ist T.im_Jar) (.cons (.own _) (.cons (.own _) .nil)) (kitAny_cons T.kit_Jar_Jar (fun z => nomatch z) fun _ => rfl) h
    | win s f => exact d_isiT (.ins i T.cl_Window T.ic_Window T.isn T.ist T.im_Window) (.cons (.own _) (.cons (.own _) .nil)) (kitAny_cons T.kit_Window_Jar (fun _ => kitAny_cons T.kit_Window_Window (fun z => nomatch z) fun _ => rfl) fun z => nomatch z) h
  | non => exact no .non T.kit_NoneType_Jar T.kit_NoneType_Window rfl
  | int => exact no (.int _) T.kit_int_Jar T.kit_int_Window rfl
  | bl => exact no (.bl _) T.kit_bool_Jar T.kit_bool_Window rfl
  | str => exact no (.str _) T.kit_str_Jar T.kit_str_Window rfl
  | lst => exact no (.lst _) T.kit_list_Jar T.kit_list_Window rfl
  | tup => exact no (.tup _) T.kit_tuple_Jar T.kit_tuple_Window rfl
end
section
def S_is_whole (A : Ad) : DSp := fun ds μ kd _ => ∃ (d : Dv) (v : Option Int) (l m : Int), ds = [d, .int l, .int m] ∧ Thing μ d v ∧ kd (.bl (goodB v l m)) μ
def S_need_moment (A : Ad) : DSp := fun ds μ kd ke => ∃ (d : Dv) (v : Option Int), ds = [d] ∧ Thing μ d v ∧ (goodB v 0 1000000000000 = true → kd .non μ) ∧ (goodB v 0 1000000000000 = false → ke (.ref A.CNM) [] μ)
def S_need_cost (A : Ad) : DSp := fun ds μ kd ke => ∃ (d : Dv) (v : Option Int), ds = [d] ∧ Thing μ d v ∧ (goodB v 1 1000000000 = true → kd .non μ) ∧ (goodB v 1 1000000000 = false → ke (.ref A.CNC) [] μ)
def S_need_bounds (A : Ad) : DSp := fun ds μ kd ke => ∃ (d : Dv) (xs : List Dv) (ys : List (Option Bd)) (m : Int), ds = [d, .int m] ∧ LTD μ d xs ∧ All2 (BthD A μ) xs ys ∧ xs.length < sizeLine ∧ (goodBs ys m = true → kd .non μ) ∧ (goodBs ys m = false → ke (.ref A.CNB) [] μ)
end

/-! ### drawn bounds of a gate -/
def bds (ns : List Int) (o z : Int) (n : Nat) : List Bd := (List.range n).map fun (i : Nat) => m_law_bound (m_law_cell ns (o + (0 + (i : Int)))) z
theorem fm_bds (A : Ad) (ns : List Int) (o z : Int) (n : Nat) : (List.range n).filterMap (fun (i : Nat) => some ((m_law_bound (m_law_cell ns (o + (0 + (i : Int)))) z).pv A)) = (bds ns o z n).map (Bd.pv A) := by
  rw [fm_some (fun (i : Nat) => (m_law_bound (m_law_cell ns (o + (0 + (i : Int)))) z).pv A)]
  unfold bds
  rw [List.map_map]
  rfl
theorem bds_len (ns : List Int) (o z : Int) (n : Nat) : (bds ns o z n).length = n := by unfold bds; simp
theorem bds_ok {ns : List Int} {o z : Int} (h1 : 1 ≤ z) (h2 : z ≤ 40000000) (n : Nat) : ∀ b ∈ bds ns o z n, b.ok := by
  intro b hb
  obtain ⟨i, _, rfl⟩ := List.mem_map.mp hb
  exact bound_ok (cell_lo _ _) h1 h2
theorem getD_allG {α : Type} {P : α → Prop} {d : α} : ∀ {l : List α} {i : Nat}, (∀ x ∈ l, P x) → i < l.length → P (l.getD i d)
  | x :: l, 0, h, _ => h x List.mem_cons_self
  | x :: l, i + 1, h, hl => getD_allG (l := l) (i := i) (fun y hy => h y (List.mem_cons_of_mem _ hy)) (Nat.lt_of_succ_lt_succ hl)
theorem eqv_strB (a b : Str) : PyData.eqv (.str a) (.str b) = decide (a = b) := by
  unfold PyData.eqv
  by_cases h : a = b
  · subst h; simp
  · rw [decide_eq_false h]; simpa using h
theorem kind_jw : decide (("jar" : Str) = "window") = false := by decide +kernel
theorem kind_wj : decide (("window" : Str) = "jar") = false := by decide +kernel
def Enc.bd : Enc Bd where
  dv := Bd.tv
  py b := .tuple [.str b.kind, .int b.sz, .int b.par]
  n := 1
  toPy b := by cases b <;> (unfold Bd.tv DL.toPy DL.toPys DL.toPys DL.toPys DL.toPys; unfold DL.toPy; rfl)
  lay b := by
    unfold PyData.canLay0
    refine layAll_of fun x hx => ?_
    simp only [List.mem_cons, List.not_mem_nil, or_false] at hx
    rcases hx with rfl | rfl | rfl
    · unfold PyData.canLay0
      cases b
      · show PyData.strOk "jar" = true; decide +kernel
      · show PyData.strOk "window" = true; decide +kernel
    · unfold PyData.canLay0; rfl
    · unfold PyData.canLay0; rfl
  dep b := by
    unfold PyData.depth
    have := depthAll_le (xs := [.str b.kind, .int b.sz, .int b.par]) (n := 0) (by
      intro x hx
      simp only [List.mem_cons, List.not_mem_nil, or_false] at hx
      rcases hx with rfl | rfl | rfl <;> (unfold PyData.depth; exact Nat.le_refl _))
    omega
  eqv a b := by
    have ei : ∀ x y : Int, PyData.eqv (.int x) (.int y) = decide (x = y) := Enc.int.eqv
    unfold PyData.eqv PyData.eqvAll PyData.eqvAll PyData.eqvAll PyData.eqvAll
    rw [eqv_strB, ei, ei]
    cases a with
    | jar s f =>
      cases b with
      | jar s2 f2 =>
        show (decide (("jar" : Str) = "jar") && (decide (s = s2) && (decide (f = f2) && true))) = _
        by_cases h1 : s = s2 <;> by_cases h2 : f = f2 <;> simp [h1, h2]
      | win s2 f2 =>
        show (decide (("jar" : Str) = "window") && _) = _
        rw [kind_jw]; simp
    | win s f =>
      cases b with
      | jar s2 f2 =>
        show (decide (("window" : Str) = "jar") && _) = _
        rw [kind_wj]; simp
      | win s2 f2 =>
        show (decide (("window" : Str) = "window") && (decide (s = s2) && (decide (f = f2) && true))) = _
        by_cases h1 : s = s2 <;> by_cases h2 : f = f2 <;> simp [h1, h2]
theorem fm_none {α β : Type} (xs : List α) : xs.filterMap (fun _ => (none : Option β)) = [] := by
  induction xs with
  | nil => rfl
  | cons x r ih => rw [List.filterMap_cons]; exact ih
/-- the parts of an answer -/
theorem fm_tvs (ns : List Int) (o z : Int) (n : Nat) : (List.range n).filterMap (fun (i : Nat) => some (m_law_bound (m_law_cell ns (o + (0 + (i : Int)))) z).tv) = (bds ns o z n).map Bd.tv := by
  rw [fm_some (fun (i : Nat) => (m_law_bound (m_law_cell ns (o + (0 + (i : Int)))) z).tv)]
  unfold bds
  rw [List.map_map]
  rfl
theorem fm_muls (q : Int) (bs : List Bd) : bs.filterMap (fun b => some (b.mulS q).tv) = (bs.map (Bd.mulS q)).map Bd.tv := by
  rw [fm_some (fun b : Bd => (b.mulS q).tv), List.map_map]
  rfl
theorem fm_pv (A : Ad) (bs : List Bd) : bs.filterMap (fun b => some (b.pv A)) = bs.map (Bd.pv A) := fm_some (fun b : Bd => b.pv A) bs
theorem bds_sz {ns : List Int} {o z : Int} (h1 : 1 ≤ z) (h2 : z ≤ 40000000) (n : Nat) : ∀ b ∈ bds ns o z n, b.sz ≤ 100000000000000 := by
  intro b hb
  obtain ⟨i, _, rfl⟩ := List.mem_map.mp hb
  have := bound_sz (cell_lo ns (o + (0 + (i : Int)))) h1 h2
  omega

/-! ### books -/
def withV (vs : Vs) (t c : Int) : Vs := vs.take (vs.filter fun p => decide (p.1 ≤ t)).length ++ [(t, c)] ++ vs.drop (vs.filter fun p => decide (p.1 ≤ t)).length
def brkGo (vs : Vs) : Nat → List Bd → Option (Nat × (Int × Int))
  | _, [] => none
  | k, b :: r => match brokenF b vs with
    | some p => some (k, p)
    | none => brkGo vs (k + 1) r
def brkOf (bs : List Bd) (vs : Vs) : Option (Nat × (Int × Int)) := brkGo vs 0 bs
theorem brkGo_none {vs : Vs} : ∀ {bs : List Bd} {k : Nat}, (∀ b ∈ bs, brokenF b vs = none) → brkGo vs k bs = none
  | [], _, _ => rfl
  | b :: r, k, h => by
    show (match brokenF b vs with | some p => some (k, p) | none => brkGo vs (k + 1) r) = none
    rw [h b List.mem_cons_self]
    exact brkGo_none fun c hc => h c (List.mem_cons_of_mem _ hc)
theorem brkGo_hit {vs : Vs} {p : Int × Int} : ∀ {bs : List Bd} {k j : Nat} {b : Bd}, bs[j]? = some b → brokenF b vs = some p → (∀ i c, i < j → bs[i]? = some c → brokenF c vs = none) → brkGo vs k bs = some (k + j, p)
  | [], _, _, _, h, _, _ => by cases h
  | b :: r, k, 0, c, h, e, _ => by
    cases h
    show (match brokenF b vs with | some p => some (k, p) | none => brkGo vs (k + 1) r) = _
    rw [e]; rfl
  | b :: r, k, j + 1, c, h, e, hp => by
    show (match brokenF b vs with | some p => some (k, p) | none => brkGo vs (k + 1) r) = _
    rw [hp 0 b (by omega) rfl]
    show brkGo vs (k + 1) r = _
    rw [brkGo_hit (bs := r) (k := k + 1) (j := j) h e fun i d hi hd => hp (i + 1) d (by omega) hd]
    congr 2; omega
theorem brkOf_none {bs : List Bd} {vs : Vs} (h : ∀ b ∈ bs, brokenF b vs = none) : brkOf bs vs = none := brkGo_none h
theorem brkOf_hit {bs : List Bd} {vs : Vs} {p : Int × Int} {j : Nat} {b : Bd} (h : bs[j]? = some b) (e : brokenF b vs = some p) (hp : ∀ i c, i < j → bs[i]? = some c → brokenF c vs = none) : brkOf bs vs = some (j, p) := by
  unfold brkOf
  rw [brkGo_hit h e hp, Nat.zero_add]
def dropV (vs : Vs) (p : Int × Int) : Vs := vs.take (vs.idxOf p) ++ vs.drop (vs.idxOf p + 1)
def bkF (xs : List Dv) (vs : Vs) : List (Str × Dv) := [("limits", .lst xs), ("rows", .lst (vs.map encV.dv))]
theorem bkF_limits (xs : List Dv) (vs : Vs) : (bkF xs vs).lookup ("limits" : Str) = some (.lst xs) := lookup_hit
theorem bkF_rows (xs : List Dv) (vs : Vs) : (bkF xs vs).lookup ("rows" : Str) = some (.lst (vs.map encV.dv)) := (lookup_miss (by decide +kernel)).trans lookup_hit
theorem bkF_no (xs : List Dv) (vs : Vs) {g : Str} (h1 : ¬ g = "limits") (h2 : ¬ g = "rows") : (bkF xs vs).lookup g = none := (lookup_miss h1).trans (lookup_miss h2)
theorem bk_init (a b : Dv) : putD "rows" b (putD "limits" a []) = ([("limits", a), ("rows", b)] : List (Str × Dv)) := by
  rw [putD_nil (f := "limits"), putD_miss (f := "rows") (g := "limits") (by decide +kernel), putD_nil (f := "rows")]
theorem bk_rows (xs : List Dv) (vs ws : Vs) : putD "rows" (.lst (ws.map encV.dv)) (bkF xs vs) = bkF xs ws := by
  unfold bkF
  rw [putD_miss (f := "rows") (g := "limits") (by decide +kernel), putD_hit]
theorem bk_limits (xs ys : List Dv) (vs : Vs) : putD "limits" (.lst ys) (bkF xs vs) = bkF ys vs := by
  unfold bkF
  rw [putD_hit]
def BookAt (A : Ad) (μ : M) (b : Addr) (xs : List Dv) (vs : Vs) : Prop := μ b = some (.ins A.CBO (bkF xs vs))
/-- a book with its bounds -/
structure BookOk (A : Ad) (μ : M) (b : Addr) (xs : List Dv) (bs : List Bd) (vs : Vs) : Prop where
  at_ : BookAt A μ b xs vs
  bds : All2 (BdD A μ) xs bs
  ok : ∀ b ∈ bs, b.ok
  len : bs.length ≤ 4
  vlen : vs.length ≤ 40
def brkF (k : Nat) (p : Int × Int) : List (Str × Dv) := [("stretch", encV.dv p), ("k", .int (k : Int))]
section
def S_with_visit (A : Ad) : DSp := fun ds μ kd _ => ∃ (vs : Vs) (t c : Int), ds = [.lst (vs.map encV.dv), .int t, .int c] ∧ vs.length ≤ 900 ∧ kd (.lst ((withV vs t c).map encV.dv)) μ
def S_need_kept (A : Ad) : DSp := fun ds μ kd ke => ∃ (xs : List Dv) (bs : List Bd) (vs : Vs), ds = [.lst xs, .lst (vs.map encV.dv)] ∧ All2 (BdD A μ) xs bs ∧ (∀ b ∈ bs, b.ok) ∧ vs.length ≤ 1000 ∧
  (∀ k p, brkOf bs vs = some (k, p) → ke (.ref A.CBK) (brkF k p) μ) ∧ (brkOf bs vs = none → kd .non μ)
def S_Book_init (A : Ad) : DSp := fun ds μ kd ke => ∃ (g : Addr) (d : Dv) (xs : List Dv) (ys : List (Option Bd)), ds = [.obj g, d] ∧ μ g = some (.ins A.CBO []) ∧ LTD μ d xs ∧ All2 (BthD A μ) xs ys ∧ xs.length < sizeLine ∧
  (goodBs ys 4 = true → kd .non (updM μ g (.ins A.CBO (bkF xs [])))) ∧ (goodBs ys 4 = false → ke (.ref A.CNB) [] μ)
def S_Book_visits (A : Ad) : DSp := fun ds μ kd _ => ∃ (b : Addr) (xs : List Dv) (vs : Vs), ds = [.obj b] ∧ BookAt A μ b xs vs ∧ ∀ p, μ p = none → kd (.obj p) (updM μ p (.lst (vs.map encV.dv)))
def S_Book_put (A : Ad) : DSp := fun ds μ kd ke => ∃ (b : Addr) (xs : List Dv) (bs : List Bd) (vs : Vs) (dt dc : Dv) (vt vc : Option Int), ds = [.obj b, dt, dc] ∧ BookOk A μ b xs bs vs ∧ Thing μ dt vt ∧ Thing μ dc vc ∧
  (goodB vt 0 1000000000000 = false → ke (.ref A.CNM) [] μ) ∧ (goodB vt 0 1000000000000 = true → goodB vc 1 1000000000 = false → ke (.ref A.CNC) [] μ) ∧
  (∀ t c, goodB vt 0 1000000000000 = true → goodB vc 1 1000000000 = true → vt = some t → vc = some c →
    (vs.length = 40 → ke (.ref A.CFU) [] μ) ∧ (vs.length ≠ 40 → (∀ k p, brkOf bs (withV vs t c) = some (k, p) → ke (.ref A.CBK) (brkF k p) μ) ∧ (brkOf bs (withV vs t c) = none → kd .non (updM μ b (.ins A.CBO (bkF xs (withV vs t c)))))))
def S_Book_drop (A : Ad) : DSp := fun ds μ kd ke => ∃ (b : Addr) (xs : List Dv) (bs : List Bd) (vs : Vs) (dt dc : Dv) (vt vc : Option Int), ds = [.obj b, dt, dc] ∧ BookOk A μ b xs bs vs ∧ Thing μ dt vt ∧ Thing μ dc vc ∧
  (goodB vt 0 1000000000000 = false → ke (.ref A.CNM) [] μ) ∧ (goodB vt 0 1000000000000 = true → goodB vc 1 1000000000 = false → ke (.ref A.CNC) [] μ) ∧
  (∀ t c, goodB vt 0 1000000000000 = true → goodB vc 1 1000000000 = true → vt = some t → vc = some c →
    ((t, c) ∉ vs → ke (.ref A.CNV) [] μ) ∧ ((t, c) ∈ vs → kd .non (updM μ b (.ins A.CBO (bkF xs (dropV vs (t, c)))))))
def S_Book_change (A : Ad) : DSp := fun ds μ kd ke => ∃ (b : Addr) (xs : List Dv) (bs : List Bd) (vs : Vs) (dk d : Dv) (vk : Option Int) (vb : Option Bd), ds = [.obj b, dk, d] ∧ BookOk A μ b xs bs vs ∧ Thing μ dk vk ∧ BthD A μ d vb ∧
  (goodB vk 0 (bs.length - 1) = false → ke (.ref A.CNP) [] μ) ∧ (goodB vk 0 (bs.length - 1) = true → vb = none → ke (.ref A.CNB) [] μ) ∧
  (∀ (k : Nat) bd, vk = some (k : Int) → k < bs.length → vb = some bd → (∀ p, brokenF bd vs = some p → ke (.ref A.CBK) (brkF k p) μ) ∧
    (brokenF bd vs = none → kd .non (updM μ b (.ins A.CBO (bkF (xs.take k ++ [d] ++ xs.drop (k + 1)) vs)))))
end
theorem cutG_take {α : Type} {xs : List α} {n : Nat} (h : n ≤ xs.length) : cutG xs none (some (n : Int)) = xs.take n := by
  unfold cutG
  rw [HT.sIx_nat, HT.sIx_none, List.drop_zero, Nat.min_eq_left h, Nat.sub_zero]
theorem cutG_drop {α : Type} {xs : List α} {n : Nat} (h : n ≤ xs.length) : cutG xs (some (n : Int)) none = xs.drop n := by
  unfold cutG
  rw [HT.sIx_nat, HT.sIx_none, Nat.min_eq_left h]
  exact List.take_of_length_le (by rw [List.length_drop]; exact Nat.le_refl _)
theorem cutG_drop1 {α : Type} {xs : List α} {n : Nat} (h : n + 1 ≤ xs.length) : cutG xs (some ((n : Int) + 1)) none = xs.drop (n + 1) := cutG_drop (n := n + 1) h
theorem cutD_take {xs : List Dv} {n : Nat} (h : n ≤ xs.length) : cutD xs none (some (n : Int)) = xs.take n := cutG_take h
theorem cutD_drop1 {xs : List Dv} {n : Nat} (h : n + 1 ≤ xs.length) : cutD xs (some ((n : Int) + 1)) none = xs.drop (n + 1) := cutG_drop (n := n + 1) h
theorem withV_len (vs : Vs) (t c : Int) : (withV vs t c).length = vs.length + 1 := by
  have hfl : (vs.filter fun p => decide (p.1 ≤ t)).length ≤ vs.length := List.length_filter_le _ _
  unfold withV
  rw [List.length_append, List.length_append, List.length_take, List.length_drop]
  simp only [List.length_cons, List.length_nil]
  omega
theorem idx_get {vs : Vs} {p : Int × Int} (h : p ∈ vs) : vs[vs.idxOf p]? = some p := by
  have hl := List.idxOf_lt_length_of_mem h
  rw [List.getElem?_eq_getElem hl, List.getElem_idxOf hl]
theorem idx_ne {vs : Vs} {p z : Int × Int} {m : Nat} (h1 : m < vs.idxOf p) (h2 : vs[m]? = some z) : z ≠ p := fun e => by
  subst e
  obtain ⟨hl, e2⟩ := List.getElem?_eq_some_iff.mp h2
  have := List.not_of_lt_findIdx (p := (· == z)) (xs := vs) (i := m) h1
  rw [e2] at this
  simp at this
theorem BdD.upd {A : Ad} {μ : M} {b : Addr} {xs : List Dv} {vs : Vs} {o : MO} {d : Dv} {bd : Bd} (hb : μ b = some (.ins A.CBO (bkF xs vs))) (h : BdD A μ d bd) : BdD A (updM μ b o) d bd := by
  cases bd with
  | jar s f =>
    cases h with
    | ins => exact .ins _ _
    | obj ha =>
      refine .obj ((updM_ne fun z => ?_).trans ha)
      subst z
      rw [hb] at ha
      have e : bkF xs vs = jarF s f := (MO.ins.inj (Option.some.inj ha)).2
      have e2 := bkF_limits xs vs
      rw [e, jarF_no _ _ (by decide +kernel) (by decide +kernel)] at e2
      cases e2
  | win s f =>
    cases h with
    | ins => exact .ins _ _
    | obj ha =>
      refine .obj ((updM_ne fun z => ?_).trans ha)
      subst z
      rw [hb] at ha
      have e : bkF xs vs = winF s f := (MO.ins.inj (Option.some.inj ha)).2
      have e2 := bkF_limits xs vs
      rw [e, winF_no _ _ (by decide +kernel) (by decide +kernel)] at e2
      cases e2
theorem BookOk.ext {A : Ad} {μ μ' : M} {b : Addr} {xs : List Dv} {bs : List Bd} {vs : Vs} (B : BookOk A μ b xs bs vs) (e : ExtM μ μ') : BookOk A μ' b xs bs vs := { B with at_ := e _ _ B.at_, bds := B.bds.mono fun _ _ h => h.ext e }
theorem BookOk.put {A : Ad} {μ : M} {b : Addr} {xs : List Dv} {bs : List Bd} {vs ws : Vs} (B : BookOk A μ b xs bs vs) (h : ws.length ≤ 40) : BookOk A (updM μ b (.ins A.CBO (bkF xs ws))) b xs bs ws :=
  { B with at_ := updM_same, bds := B.bds.mono fun _ _ h => h.upd B.at_, vlen := h }
/-- rising by their moments -/
def Srt (vs : Vs) : Prop := vs.Pairwise fun p q => p.1 ≤ q.1
theorem srt_filter {t : Int} : ∀ {vs : Vs}, Srt vs → vs.filter (fun p => decide (p.1 ≤ t)) = vs.take (vs.filter fun p => decide (p.1 ≤ t)).length
  | [], _ => rfl
  | v :: r, h => by
    obtain ⟨h1, h2⟩ := List.pairwise_cons.mp h
    rw [List.filter_cons]
    by_cases z : v.1 ≤ t
    · rw [if_pos (decide_eq_true z), List.length_cons, List.take_succ_cons]
      exact congrArg (v :: ·) (srt_filter h2)
    · rw [if_neg (by simpa using z)]
      have e : r.filter (fun p => decide (p.1 ≤ t)) = [] := List.filter_eq_nil_iff.mpr fun p hp q => z (Int.le_trans (h1 p hp) (of_decide_eq_true q))
      rw [e]; rfl
theorem srt_drop {t : Int} : ∀ {vs : Vs}, Srt vs → ∀ p ∈ vs.drop (vs.filter fun p => decide (p.1 ≤ t)).length, t < p.1
  | [], _, p, hp => by simp at hp
  | v :: r, h, p, hp => by
    obtain ⟨h1, h2⟩ := List.pairwise_cons.mp h
    rw [List.filter_cons] at hp
    by_cases z : v.1 ≤ t
    · rw [if_pos (decide_eq_true z), List.length_cons, List.drop_succ_cons] at hp
      exact srt_drop h2 p hp
    · rw [if_neg (by simpa using z)] at hp
      have e : r.filter (fun p => decide (p.1 ≤ t)) = [] := List.filter_eq_nil_iff.mpr fun p hp q => z (Int.le_trans (h1 p hp) (of_decide_eq_true q))
      rw [e] at hp
      rcases List.mem_cons.mp hp with rfl | hp
      · omega
      · have := h1 p hp; omega
theorem withV_srt {vs : Vs} {t c : Int} (h : Srt vs) : Srt (withV vs t c) := by
  unfold withV Srt
  rw [List.append_assoc, List.pairwise_append]
  have ht : ∀ p ∈ vs.take (vs.filter fun p => decide (p.1 ≤ t)).length, p.1 ≤ t := fun p hp => by
    rw [← srt_filter h] at hp
    exact of_decide_eq_true (List.mem_filter.mp hp).2
  refine ⟨List.Pairwise.sublist (List.take_sublist _ _) h, List.pairwise_cons.mpr ⟨fun p hp => Int.le_of_lt (srt_drop h p hp), List.Pairwise.sublist (List.drop_sublist _ _) h⟩, fun p hp q hq => ?_⟩
  rcases List.mem_cons.mp hq with rfl | hq
  · exact ht p hp
  · exact Int.le_trans (ht p hp) (Int.le_of_lt (srt_drop h q hq))
theorem withV_mem {vs : Vs} {t c : Int} {p : Int × Int} (h : p ∈ withV vs t c) : p = (t, c) ∨ p ∈ vs := by
  unfold withV at h
  rcases List.mem_append.mp h with h | h
  · rcases List.mem_append.mp h with h | h
    · exact .inr (List.mem_of_mem_take h)
    · exact .inl (List.mem_singleton.mp h)
  · exact .inr (List.mem_of_mem_drop h)

/-! ### the earliest moment of a book -/
def minL : List Int → Int
  | [] => 0
  | [x] => x
  | x :: y :: r => min x (minL (y :: r))
theorem minL_mem : ∀ {ns : List Int}, ns ≠ [] → minL ns ∈ ns
  | [x], _ => List.mem_singleton.mpr rfl
  | x :: y :: r, _ => by
    have ih := minL_mem (ns := y :: r) (by simp)
    show min x (minL (y :: r)) ∈ _
    rcases Int.le_total x (minL (y :: r)) with h | h
    · rw [Int.min_eq_left h]; exact List.mem_cons_self
    · rw [Int.min_eq_right h]; exact List.mem_cons_of_mem _ ih
theorem minL_le : ∀ {ns : List Int} {y : Int}, y ∈ ns → minL ns ≤ y
  | [x], y, h => by cases List.mem_singleton.mp h; exact Int.le_refl _
  | x :: z :: r, y, h => by
    show min x (minL (z :: r)) ≤ y
    rcases List.mem_cons.mp h with rfl | h
    · omega
    · have := minL_le h; omega
theorem minL_uniq {ns : List Int} {m : Int} (h1 : m ∈ ns) (h2 : ∀ y ∈ ns, m ≤ y) : m = minL ns := by
  have a := minL_le h1
  have b := h2 _ (minL_mem (List.ne_nil_of_mem h1))
  omega
def filledAt (b : Bd) (used first : Int) : Option Int := match b with
  | .win _ s => some (first + s)
  | .jar s f => if f = 0 then none else some (first + (used - s + f - 1) / f)
def behindV (b : Bd) (vs : Vs) (t c : Int) (p : Int × Int) : Option Int :=
  if t < p.2 ∧ p.1 < t then some (p.2 + 1) else if t < p.2 then some (minL ((vs.filter fun q => decide (t ≤ q.1)).map (·.1)) + 1)
  else filledAt b (c + ((vs.filter fun q => decide (p.1 ≤ q.1) && decide (q.1 ≤ p.2)).map (·.2)).sum) p.1
def tryS (b : Bd) (vs : Vs) (t c : Int) : Int → List (Int × Int) → Option Int
  | f, [] => some f
  | f, p :: r => match behindV b vs t c p with
    | none => none
    | some l => tryS b vs t c (max f l) r
def tryB (vs : Vs) (t c : Int) : Int → List Bd → Option Int
  | f, [] => some f
  | f, b :: r => if b.sz < c then none else match tryS b vs t c f (brokenAll b (withV vs t c)) with
    | none => none
    | some g => tryB vs t c g r
def nextTry (bs : List Bd) (vs : Vs) (t c : Int) : Option Int := tryB vs t c t bs
def EarN (bs : List Bd) (vs : Vs) (c : Int) : Nat → Int → Option Int → Prop
  | 0, t, r => (nextTry bs vs t c = none ∧ r = none) ∨ (nextTry bs vs t c = some t ∧ r = some t)
  | n + 1, t, r => ∃ t', nextTry bs vs t c = some t' ∧ t' ≠ t ∧ EarN bs vs c n t' r
theorem brokenAll_mem {b : Bd} {vs : Vs} {p : Int × Int} (h : p ∈ brokenAll b vs) : ∃ a e, a ≤ e ∧ e < vs.length ∧ p = strAE vs a e ∧ brk b vs a e = true := by
  unfold brokenAll brokenTo at h
  obtain ⟨a, ha, h2⟩ := List.mem_flatMap.mp h
  have hal := List.mem_range.mp (List.mem_filter.mp ha).1
  unfold rowB at h2
  obtain ⟨e, he, rfl⟩ := List.mem_map.mp h2
  obtain ⟨he1, he2⟩ := List.mem_filter.mp he
  have := List.mem_range'_1.mp he1
  exact ⟨a, e, by omega, by omega, rfl, he2⟩
theorem vAt_mem {vs : Vs} {i : Nat} (h : i < vs.length) : vAt vs i ∈ vs := by
  unfold vAt
  rw [List.getD_eq_getElem?_getD, List.getElem?_eq_getElem h]
  exact List.getElem_mem _
theorem with_mem {vs : Vs} {t c : Int} {p : Int × Int} (h : p ∈ withV vs t c) : p = (t, c) ∨ p ∈ vs := by
  unfold withV at h
  rcases List.mem_append.mp h with h | h
  · rcases List.mem_append.mp h with h | h
    · exact .inr (List.mem_of_mem_take h)
    · exact .inl (List.mem_singleton.mp h)
  · exact .inr (List.mem_of_mem_drop h)
/-- where a broken stretch ends later there is a visit -/
theorem later_visit {b : Bd} {vs : Vs} {t c : Int} {p : Int × Int} (h : p ∈ brokenAll b (withV vs t c)) (hl : t < p.2) : ∃ q ∈ vs, t ≤ q.1 := by
  obtain ⟨a, e, _, he, rfl, _⟩ := brokenAll_mem h
  have hl' : t < (vAt (withV vs t c) e).1 := hl
  rcases with_mem (vAt_mem he) with z | z
  · rw [z] at hl'; exact absurd hl' (Int.lt_irrefl _)
  · exact ⟨_, z, Int.le_of_lt hl'⟩
theorem room0 {b : Bd} (ok : b.ok) : b.room 0 0 = some b.sz := by
  cases b with
  | jar s f => show some (s + f * (0 - 0)) = some s; rw [show (0 : Int) - 0 = 0 from rfl, Int.mul_zero, Int.add_zero]
  | win m s => exact if_pos (by have := ok.2.1; show (0 : Int) - 0 < s; omega)
theorem tryS_none {b : Bd} {vs : Vs} {t c f : Int} {p : Int × Int} {r : List (Int × Int)} (h : behindV b vs t c p = none) : tryS b vs t c f (p :: r) = none := by
  show (match behindV b vs t c p with | none => none | some l => tryS b vs t c (max f l) r) = none
  rw [h]
theorem tryS_some {b : Bd} {vs : Vs} {t c f l : Int} {p : Int × Int} {r : List (Int × Int)} (h : behindV b vs t c p = some l) : tryS b vs t c f (p :: r) = tryS b vs t c (max f l) r := by
  show (match behindV b vs t c p with | none => none | some l => tryS b vs t c (max f l) r) = _
  rw [h]
theorem tryB_big {b : Bd} {vs : Vs} {t c f : Int} {r : List Bd} (h : b.sz < c) : tryB vs t c f (b :: r) = none := if_pos h
theorem tryB_none {b : Bd} {vs : Vs} {t c f : Int} {r : List Bd} (h : ¬ b.sz < c) (h2 : tryS b vs t c f (brokenAll b (withV vs t c)) = none) : tryB vs t c f (b :: r) = none := by
  show (if b.sz < c then none else match tryS b vs t c f (brokenAll b (withV vs t c)) with | none => none | some g => tryB vs t c g r) = none
  rw [if_neg h, h2]
theorem tryB_some {b : Bd} {vs : Vs} {t c f g : Int} {r : List Bd} (h : ¬ b.sz < c) (h2 : tryS b vs t c f (brokenAll b (withV vs t c)) = some g) : tryB vs t c f (b :: r) = tryB vs t c g r := by
  show (if b.sz < c then none else match tryS b vs t c f (brokenAll b (withV vs t c)) with | none => none | some g => tryB vs t c g r) = _
  rw [if_neg h, h2]
theorem drop_get {α : Type} {xs : List α} {j : Nat} {x : α} (h : xs[j]? = some x) : xs.drop j = x :: xs.drop (j + 1) := by
  obtain ⟨hl, e⟩ := List.getElem?_eq_some_iff.mp h
  rw [List.drop_eq_getElem_cons hl, e]
section
def S_filled_at (A : Ad) : DSp := fun ds μ kd _ => ∃ (d : Dv) (b : Bd) (used first : Int), ds = [d, .int used, .int first] ∧ BdD A μ d b ∧ b.ok ∧ kd (opI (filledAt b used first)) μ
def S_behind (A : Ad) : DSp := fun ds μ kd _ => ∃ (d : Dv) (b : Bd) (vs : Vs) (t c : Int) (p : Int × Int), ds = [d, .lst (vs.map encV.dv), .int t, .int c, encV.dv p] ∧ BdD A μ d b ∧ b.ok ∧ vs.length ≤ 1000 ∧ (t < p.2 → ∃ q ∈ vs, t ≤ q.1) ∧ kd (opI (behindV b vs t c p)) μ
def S_Book_next_try (A : Ad) : DSp := fun ds μ kd _ => ∃ (b : Addr) (xs : List Dv) (bs : List Bd) (vs : Vs) (t c : Int), ds = [.obj b, .int t, .int c] ∧ BookOk A μ b xs bs vs ∧ kd (opI (nextTry bs vs t c)) μ
def S_Book_earliest (A : Ad) : DSp := fun ds μ kd ke => ∃ (b : Addr) (xs : List Dv) (bs : List Bd) (vs : Vs) (dt dc : Dv) (vt vc : Option Int), ds = [.obj b, dt, dc] ∧ BookOk A μ b xs bs vs ∧ Thing μ dt vt ∧ Thing μ dc vc ∧
  (goodB vt 0 1000000000000 = false → ke (.ref A.CNM) [] μ) ∧ (goodB vt 0 1000000000000 = true → goodB vc 1 1000000000 = false → ke (.ref A.CNC) [] μ) ∧
  (∀ t c, goodB vt 0 1000000000000 = true → goodB vc 1 1000000000 = true → vt = some t → vc = some c → ∃ n r, EarN bs vs c n t r ∧ kd (opI r) μ)
end
theorem fm_ifB {l u : Int} {vs : Vs} : vs.filterMap (fun q => if (decide (l ≤ q.1) && decide (q.1 ≤ u)) = true then some (Dv.int q.2) else none) = ((vs.filter fun q => decide (l ≤ q.1) && decide (q.1 ≤ u)).map fun q => Dv.int q.2) := by
  induction vs with
  | nil => rfl
  | cons v r ih =>
    rw [List.filterMap_cons, List.filter_cons]
    by_cases h : (decide (l ≤ v.1) && decide (v.1 ≤ u)) = true
    · rw [if_pos h, if_pos h, List.map_cons, ← ih]
    · rw [if_neg h, if_neg h, ih]

/-! ### k09 -/
theorem idxT {xs : List Bool} {j : Nat} (h : (xs.take j).all (fun b => !b) = true) : ∀ (m : Nat) (z : Bool), m < j → xs[m]? = some z → z ≠ true := fun m z h1 h2 e => by
  subst e
  rw [List.all_eq_true] at h
  have : true ∈ xs.take j := List.mem_of_getElem? (i := m) (by rw [List.getElem?_take, if_pos h1]; exact h2)
  exact absurd (h true this) (by decide)
abbrev S_law (A : Ad) : DSp := DL.spLaw
def VsOk (vs : Vs) : Prop := Srt vs ∧ ∀ p ∈ vs, (0 ≤ p.1 ∧ p.1 ≤ 1000000000000) ∧ 1 ≤ p.2 ∧ p.2 ≤ 1000000000
theorem dropV_sub (vs : Vs) (p : Int × Int) : (dropV vs p).Sublist vs := by
  unfold dropV
  conv => rhs; rw [← List.take_append_drop (vs.idxOf p) vs]
  exact List.Sublist.append (List.Sublist.refl _) (by rw [← List.drop_drop]; exact List.drop_sublist _ _)
def oK : Option (Nat × (Int × Int)) → Dv
  | none => .non
  | some (k, p) => .tup [.int (k : Int), encV.dv p]
section
def S__law_made (A : Ad) : DSp := fun ds μ kd _ => ∃ b : Bd, ds = [b.tv] ∧ b.ok ∧ ∀ a, μ a = none → kd (.obj a) (updM μ a (.ins (b.cls A) b.flds))
def S__law_breaks (A : Ad) : DSp := fun ds μ kd _ => ∃ (bs : List Bd) (vs : Vs), ds = [.lst (bs.map Bd.tv), .lst (vs.map encV.dv)] ∧ (∀ b ∈ bs, b.ok) ∧ bs.length ≤ 4 ∧ vs.length ≤ 1000 ∧ (∀ p ∈ vs, 0 ≤ p.2) ∧ kd (oK (brkOf bs vs)) μ
def S__law_with (A : Ad) : DSp := fun ds μ kd _ => ∃ (vs : Vs) (t c : Int), ds = [.lst (vs.map encV.dv), .int t, .int c] ∧ vs.length ≤ 900 ∧ Srt vs ∧ kd (.lst ((withV vs t c).map encV.dv)) μ
end
inductive Res9 where
  | ok | fault (k : Nat) (p : Int × Int) | full | noVisit | noPlace
def Res9.dv : Res9 → Dv
  | .ok => .str "ok"
  | .fault k p => .tup [.int (k : Int), encV.dv p]
  | .full => .str "Full"
  | .noVisit => .str "NoVisit"
  | .noPlace => .str "NoPlace"
inductive Deed where
  | put (t c : Int) | drop (t c : Int) | change (k : Int) (b : Bd)
def Deed.dv : Deed → Dv
  | .put t c => .tup [.str "put", .int t, .int c]
  | .drop t c => .tup [.str "drop", .int t, .int c]
  | .change k b => .tup [.str "change", .int k, b.tv]
def Deed.good : Deed → Prop
  | .put t c => (0 ≤ t ∧ t ≤ 1000000000000) ∧ (1 ≤ c ∧ c ≤ 1000000000)
  | .drop t c => (0 ≤ t ∧ t ≤ 1000000000000) ∧ (1 ≤ c ∧ c ≤ 1000000000)
  | .change _ b => b.ok
def due9 (bs : List Bd) (vs : Vs) : Deed → Res9 × List Bd × Vs
  | .put t c => if vs.length = 40 then (.full, bs, vs) else match brkOf bs (withV vs t c) with
    | none => (.ok, bs, withV vs t c)
    | some (k, p) => (.fault k p, bs, vs)
  | .drop t c => if (t, c) ∈ vs then (.ok, bs, dropV vs (t, c)) else (.noVisit, bs, vs)
  | .change k b => if 0 ≤ k ∧ k < bs.length then match brokenF b vs with
      | some p => (.fault k.toNat p, bs, vs)
      | none => (.ok, bs.take k.toNat ++ [b] ++ bs.drop (k.toNat + 1), vs)
    else (.noPlace, bs, vs)
def Res9.exn (A : Ad) : Res9 → Dv
  | .ok => .non
  | .fault k p => .exc A.CBK (brkF k p)
  | .full => .exc A.CFU []
  | .noVisit => .exc A.CNV []
  | .noPlace => .exc A.CNP []
section
def S__law_kind (A : Ad) : DSp := fun ds μ kd _ => ∃ r : Res9, ds = [r.exn A] ∧ kd r.dv μ
def S__law_did (A : Ad) : DSp := fun ds μ kd _ => ∃ (b : Addr) (xs : List Dv) (bs : List Bd) (vs : Vs) (dd : Deed), ds = [.obj b, dd.dv] ∧ BookOk A μ b xs bs vs ∧ dd.good ∧ VsOk vs ∧
  ∀ xs' μ', BookOk A μ' b xs' (due9 bs vs dd).2.1 (due9 bs vs dd).2.2 → (∀ a o, μ a = some o → a ≠ b → μ' a = some o) → kd (due9 bs vs dd).1.dv μ'
def S__law_due (A : Ad) : DSp := fun ds μ kd _ => ∃ (bs : List Bd) (vs : Vs) (dd : Deed), ds = [.lst (bs.map Bd.tv), .lst (vs.map encV.dv), dd.dv] ∧ (∀ b ∈ bs, b.ok) ∧ bs.length ≤ 4 ∧ vs.length ≤ 40 ∧ VsOk vs ∧ dd.good ∧
  kd (.tup [(due9 bs vs dd).1.dv, .lst ((due9 bs vs dd).2.1.map Bd.tv), .lst ((due9 bs vs dd).2.2.map encV.dv)]) μ
def S__law_deed (A : Ad) : DSp := fun ds μ kd _ => ∃ (c m : Int) (vs : Vs) (mid z : Int), ds = [.int c, .int m, .lst (vs.map encV.dv), .int mid, .int z] ∧ (0 ≤ c ∧ 0 ≤ m) ∧ VsOk vs ∧ vs.length ≤ 40 ∧ (0 ≤ mid ∧ mid ≤ 100000000000) ∧ (1 ≤ z ∧ z ≤ 40000000) ∧ ∀ dd : Deed, dd.good → kd dd.dv μ
end

theorem due_full {bs : List Bd} {vs : Vs} {t c : Int} (h : vs.length = 40) : due9 bs vs (.put t c) = (.full, bs, vs) := if_pos h
theorem due_put {bs : List Bd} {vs : Vs} {t c : Int} (h : vs.length ≠ 40) (hb : brkOf bs (withV vs t c) = none) : due9 bs vs (.put t c) = (.ok, bs, withV vs t c) := by
  simp [due9, h, hb]
theorem due_fault {bs : List Bd} {vs : Vs} {t c : Int} {k : Nat} {p : Int × Int} (h : vs.length ≠ 40) (hb : brkOf bs (withV vs t c) = some (k, p)) : due9 bs vs (.put t c) = (.fault k p, bs, vs) := by
  simp [due9, h, hb]
theorem due_drop {bs : List Bd} {vs : Vs} {t c : Int} (h : (t, c) ∈ vs) : due9 bs vs (.drop t c) = (.ok, bs, dropV vs (t, c)) := if_pos h
theorem due_novisit {bs : List Bd} {vs : Vs} {t c : Int} (h : (t, c) ∉ vs) : due9 bs vs (.drop t c) = (.noVisit, bs, vs) := if_neg h
theorem due_noplace {bs : List Bd} {vs : Vs} {k : Int} {b : Bd} (h : ¬ (0 ≤ k ∧ k < bs.length)) : due9 bs vs (.change k b) = (.noPlace, bs, vs) := if_neg h
theorem due_change {bs : List Bd} {vs : Vs} {k : Nat} {b : Bd} (h : k < bs.length) (hb : brokenF b vs = none) : due9 bs vs (.change (k : Int) b) = (.ok, bs.take k ++ [b] ++ bs.drop (k + 1), vs) := by
  simp [due9, h, hb]
theorem due_cfault {bs : List Bd} {vs : Vs} {k : Nat} {b : Bd} {p : Int × Int} (h : k < bs.length) (hb : brokenF b vs = some p) : due9 bs vs (.change (k : Int) b) = (.fault k p, bs, vs) := by
  simp [due9, h, hb]
theorem VsOk.pos {vs : Vs} (h : VsOk vs) : ∀ p ∈ vs, 0 ≤ p.2 := fun p hp => by have := (h.2 p hp).2; omega
theorem VsOk.withV {vs : Vs} {t c : Int} (h : VsOk vs) (g : (Deed.put t c).good) : VsOk (TSL.withV vs t c) := ⟨withV_srt h.1, fun p hp => by
  rcases withV_mem hp with rfl | hp
  · exact g
  · exact h.2 p hp⟩
theorem VsOk.dropV {vs : Vs} (h : VsOk vs) (p : Int × Int) : VsOk (TSL.dropV vs p) := ⟨List.Pairwise.sublist (dropV_sub vs p) h.1, fun q hq => h.2 q ((dropV_sub vs p).subset hq)⟩
theorem dm9 {mid g : Int} {i j : Nat} (h1 : 0 ≤ mid) (h2 : mid ≤ 100000000000) (h3 : 0 ≤ g) (h4 : g ≤ 1000000) (hi : i < 2) (hj : j < 2) : 0 ≤ max 0 (mid + ([-1, 1] : List Int).getD i 0 * g * ([1, 9] : List Int).getD j 0) ∧ max 0 (mid + ([-1, 1] : List Int).getD i 0 * g * ([1, 9] : List Int).getD j 0) ≤ 1000000000000 := by
  have e1 : ([-1, 1] : List Int).getD i 0 = -1 ∨ ([-1, 1] : List Int).getD i 0 = 1 := by
    rcases i with _ | _ | i
    · exact .inl rfl
    · exact .inr rfl
    · omega
  have e2 : ([1, 9] : List Int).getD j 0 = 1 ∨ ([1, 9] : List Int).getD j 0 = 9 := by
    rcases j with _ | _ | j
    · exact .inl rfl
    · exact .inr rfl
    · omega
  rcases e1 with e1 | e1 <;> rcases e2 with e2 | e2 <;> rw [e1, e2] <;> omega
theorem All2.take {α β : Type} {R : α → β → Prop} : ∀ {as : List α} {bs : List β} (k : Nat), All2 R as bs → All2 R (as.take k) (bs.take k)
  | _, _, 0, _ => .nil
  | _, _, k + 1, .nil => .nil
  | _, _, k + 1, .cons h t => .cons h (t.take k)
theorem All2.drop {α β : Type} {R : α → β → Prop} : ∀ {as : List α} {bs : List β} (k : Nat), All2 R as bs → All2 R (as.drop k) (bs.drop k)
  | _, _, 0, h => h
  | _, _, k + 1, .nil => .nil
  | _, _, k + 1, .cons h t => t.drop k
theorem BookOk.change {A : Ad} {μ : M} {b : Addr} {xs : List Dv} {bs : List Bd} {vs : Vs} {k : Nat} {d : Dv} {bd : Bd} (B : BookOk A μ b xs bs vs) (hk : k < bs.length) (h : BdD A μ d bd) (ok : bd.ok) :
    BookOk A (updM μ b (.ins A.CBO (bkF (xs.take k ++ [d] ++ xs.drop (k + 1)) vs))) b (xs.take k ++ [d] ++ xs.drop (k + 1)) (bs.take k ++ [bd] ++ bs.drop (k + 1)) vs where
  at_ := updM_same
  bds := All2.append (All2.append ((B.bds.mono fun _ _ h => h.upd B.at_).take k) (.cons (h.upd B.at_) .nil)) ((B.bds.mono fun _ _ h => h.upd B.at_).drop (k + 1))
  ok := fun c hc => by
    rcases List.mem_append.mp hc with hc | hc
    · rcases List.mem_append.mp hc with hc | hc
      · exact B.ok c (List.mem_of_mem_take hc)
      · cases List.mem_singleton.mp hc; exact ok
    · exact B.ok c (List.mem_of_mem_drop hc)
  len := by
    have := B.len
    rw [List.length_append, List.length_append, List.length_take, List.length_drop]
    simp only [List.length_cons, List.length_nil]
    omega
  vlen := B.vlen
theorem getD_memV {vs : Vs} {d : Int × Int} {i : Nat} (h : i < vs.length) : vs.getD i d ∈ vs := by
  rw [List.getD_eq_getElem?_getD, List.getElem?_eq_getElem h]
  exact List.getElem_mem _
theorem due_ok {bs : List Bd} {vs : Vs} {dd : Deed} (h : VsOk vs) (g : dd.good) : VsOk (due9 bs vs dd).2.2 := by
  cases dd with
  | put t c =>
    by_cases z : vs.length = 40
    · rw [due_full z]; exact h
    · cases e : brkOf bs (withV vs t c) with
      | none => rw [due_put z e]; exact h.withV g
      | some q => obtain ⟨k, p⟩ := q; rw [due_fault z e]; exact h
  | drop t c =>
    by_cases z : (t, c) ∈ vs
    · rw [due_drop z]; exact h.dropV _
    · rw [due_novisit z]; exact h
  | change k b =>
    by_cases z : 0 ≤ k ∧ k < bs.length
    · obtain ⟨k0, rfl⟩ : ∃ k0 : Nat, k = (k0 : Int) := ⟨k.toNat, by omega⟩
      cases e : brokenF b vs with
      | none => rw [due_change (by omega) e]; exact h
      | some p => rw [due_cfault (by omega) e]; exact h
    · rw [due_noplace z]; exact h
theorem BdD.off {A : Ad} {μ : M} {p : Addr} {l : List Dv} {o : MO} {d : Dv} {bd : Bd} (hb : μ p = some (.lst l)) (h : BdD A μ d bd) : BdD A (updM μ p o) d bd := by
  unfold BdD at *
  cases h with
  | ins => exact .ins _ _
  | obj ha => exact .obj ((updM_ne fun z => by subst z; rw [hb] at ha; cases ha).trans ha)
theorem BookOk.off {A : Ad} {μ : M} {b p : Addr} {l : List Dv} {o : MO} {xs : List Dv} {bs : List Bd} {vs : Vs} (B : BookOk A μ b xs bs vs) (hp : μ p = some (.lst l)) : BookOk A (updM μ p o) b xs bs vs :=
  { B with
    at_ := (updM_ne fun z => by
      have h : μ b = some (.ins A.CBO (bkF xs vs)) := B.at_
      rw [z, hp] at h
      cases h).trans B.at_
    bds := B.bds.mono fun _ _ h => h.off hp }
theorem asBds {A : Ad} {μ : M} {as : List Addr} {bs : List Bd} (hl : as.length = bs.length) (h : ∀ (j : Nat) (a : Addr) (x : Bd), as[j]? = some a → bs[j]? = some x → μ a = some (.ins (x.cls A) x.flds)) : All2 (BdD A μ) (as.map Dv.obj) bs :=
  all2_get (by rw [List.length_map]; exact hl) fun j a b e1 e2 => by
    rw [List.getElem?_map] at e1
    obtain ⟨a0, h0, rfl⟩ := Option.map_eq_some_iff.mp e1
    exact .obj (h j a0 b h0 e2)
section
variable {K : Kf} {μ : M} {k : DK}
theorem d_neRes (r : Res9) (h : k (.bl false) μ) : DOp K (rNeA K) r.dv r.dv μ k := by
  cases r with
  | fault n p => exact d_neE (Enc.pair Enc.int encV) (by decide) (x := ((n : Int), p)) (y := ((n : Int), p)) rfl rfl (by simpa using h)
  | _ => exact d_neS (by simpa using h)
end

/-! ### the earliest moment is the least -/
def usedIn (ws : Vs) (x y : Int) : Int := ((ws.filter fun q => decide (x ≤ q.1) && decide (q.1 ≤ y)).map (·.2)).sum
theorem usedIn_append (as bs : Vs) (x y : Int) : usedIn (as ++ bs) x y = usedIn as x y + usedIn bs x y := by
  unfold usedIn
  rw [List.filter_append, List.map_append, List.sum_append]
theorem usedIn_one (t c x y : Int) : usedIn [(t, c)] x y = if x ≤ t ∧ t ≤ y then c else 0 := by
  unfold usedIn
  rw [List.filter_cons, List.filter_nil]
  by_cases h : x ≤ t ∧ t ≤ y
  · rw [if_pos h, if_pos (by rw [decide_eq_true h.1, decide_eq_true h.2]; rfl)]
    show c + 0 = c
    omega
  · rw [if_neg h, if_neg (fun z => h (and_dec z))]
    rfl
theorem usedIn_with (vs : Vs) (t c x y : Int) : usedIn (withV vs t c) x y = usedIn vs x y + if x ≤ t ∧ t ≤ y then c else 0 := by
  unfold withV
  rw [usedIn_append, usedIn_append, usedIn_one]
  have h : usedIn vs x y = usedIn (vs.take (vs.filter fun p => decide (p.1 ≤ t)).length) x y + usedIn (vs.drop (vs.filter fun p => decide (p.1 ≤ t)).length) x y := by
    rw [← usedIn_append, List.take_append_drop]
  rw [h]
  omega
theorem usedIn_nonneg {vs : Vs} (hp : ∀ p ∈ vs, 0 ≤ p.2) (x y : Int) : 0 ≤ usedIn vs x y := by
  unfold usedIn
  induction vs with
  | nil => exact Int.le_refl _
  | cons v r ih =>
    have ih := ih fun p h => hp p (List.mem_cons_of_mem _ h)
    have h0 := hp v List.mem_cons_self
    rw [List.filter_cons]
    split
    · rw [List.map_cons, List.sum_cons]; omega
    · exact ih
theorem usedIn_mono {vs : Vs} (hp : ∀ p ∈ vs, 0 ≤ p.2) {x y x' y' : Int} (hx : x' ≤ x) (hy : y ≤ y') : usedIn vs x y ≤ usedIn vs x' y' := by
  unfold usedIn
  induction vs with
  | nil => exact Int.le_refl _
  | cons v r ih =>
    have ih := ih fun p h => hp p (List.mem_cons_of_mem _ h)
    have h0 := hp v List.mem_cons_self
    rw [List.filter_cons, List.filter_cons]
    by_cases z : x ≤ v.1 ∧ v.1 ≤ y
    · rw [if_pos (by rw [decide_eq_true z.1, decide_eq_true z.2]; rfl), if_pos (by rw [decide_eq_true (show x' ≤ v.1 by omega), decide_eq_true (show v.1 ≤ y' by omega)]; rfl), List.map_cons, List.map_cons, List.sum_cons, List.sum_cons]
      omega
    · rw [if_neg fun q => z (and_dec q)]
      split
      · rw [List.map_cons, List.sum_cons]; omega
      · exact ih
def Mo (vs : Vs) (x : Int) : Prop := ∃ q ∈ vs, q.1 = x
/-- the stretch from x to y is broken in the row with a visit of cost c at t -/
def BadS (b : Bd) (vs : Vs) (c t x y : Int) : Prop := x ≤ t ∧ t ≤ y ∧ (x = t ∨ Mo vs x) ∧ (y = t ∨ Mo vs y) ∧ ∃ r, b.room x y = some r ∧ r < usedIn vs x y + c
def Bad (b : Bd) (vs : Vs) (c t : Int) : Prop := ∃ x y, BadS b vs c t x y
theorem room_near {b : Bd} (ok : b.ok) {x y x' r : Int} (h : b.room x y = some r) (hx : x ≤ x') (hy : x' ≤ y) : ∃ r', b.room x' y = some r' ∧ r' ≤ r := by
  cases b with
  | jar s f =>
    cases h
    have h1 : f * (y - x') ≤ f * (y - x) := Int.mul_le_mul_of_nonneg_left (by omega) ok.2.1
    exact ⟨_, rfl, by omega⟩
  | win m s =>
    have h' : (if y - x < s then some m else none) = some r := h
    split at h'
    · cases h'
      exact ⟨_, if_pos (by omega), Int.le_refl _⟩
    · cases h'
theorem behind_later {b : Bd} {vs : Vs} {c t : Int} {p : Int × Int} (ok : b.ok) (hp : ∀ q ∈ vs, 0 ≤ q.2) (hc : c ≤ b.sz) (hb : BadS b vs c t p.1 p.2) :
    (∀ l, behindV b vs t c p = some l → t < l ∧ ∀ t', t ≤ t' → t' < l → Bad b vs c t') ∧ (behindV b vs t c p = none → ∀ t', t ≤ t' → Bad b vs c t') := by
  obtain ⟨h1, h2, h3, h4, r, hr, hlt⟩ := hb
  unfold behindV
  by_cases c1 : t < p.2 ∧ p.1 < t
  · rw [if_pos c1]
    refine ⟨fun l hl => ?_, fun z => nomatch z⟩
    cases hl
    refine ⟨by omega, fun t' a1 a2 => ⟨p.1, p.2, by omega, by omega, .inr (h3.resolve_left (by omega)), .inr (h4.resolve_left (by omega)), r, hr, hlt⟩⟩
  · rw [if_neg c1]
    by_cases c2 : t < p.2
    · rw [if_pos c2]
      refine ⟨fun l hl => ?_, fun z => nomatch z⟩
      cases hl
      have e1 : p.1 = t := by omega
      obtain ⟨q, hq, hq2⟩ := h4.resolve_left (by omega)
      have hmem : q.1 ∈ (vs.filter fun q => decide (t ≤ q.1)).map (·.1) := List.mem_map.mpr ⟨q, List.mem_filter.mpr ⟨hq, decide_eq_true (by omega)⟩, rfl⟩
      have hm1 := minL_le hmem
      have hmin : ∀ w ∈ vs, t ≤ w.1 → minL ((vs.filter fun q => decide (t ≤ q.1)).map (·.1)) ≤ w.1 := fun w hw ht => minL_le (List.mem_map.mpr ⟨w, List.mem_filter.mpr ⟨hw, decide_eq_true ht⟩, rfl⟩)
      have hm2 := minL_mem (List.ne_nil_of_mem hmem)
      generalize minL ((vs.filter fun q => decide (t ≤ q.1)).map (·.1)) = m at *
      obtain ⟨q2, hq3, e2⟩ := List.mem_map.mp hm2
      have hq4 := of_decide_eq_true (List.mem_filter.mp hq3).2
      refine ⟨by omega, fun t' a1 a2 => ?_⟩
      obtain ⟨r', hr', hle⟩ := room_near ok hr (x' := t') (by omega) (by omega)
      refine ⟨t', p.2, by omega, by omega, .inl rfl, .inr ⟨q, hq, hq2⟩, r', hr', ?_⟩
      have e3 : usedIn vs t' p.2 = usedIn vs p.1 p.2 := by
        unfold usedIn
        congr 2
        refine List.filter_congr fun w hw => ?_
        congr 1
        refine decide_eq_decide.mpr ⟨fun z => by omega, fun z => ?_⟩
        have := hmin w hw (by omega)
        omega
      omega
    · rw [if_neg c2]
      have e2 : p.2 = t := by omega
      have hmo : Mo vs p.1 := by
        refine Classical.byContradiction fun z => ?_
        have e1 : p.1 = t := h3.resolve_right z
        have e3 : usedIn vs p.1 p.2 = 0 := by
          unfold usedIn
          rw [show (vs.filter fun q => decide (p.1 ≤ q.1) && decide (q.1 ≤ p.2)) = [] from List.filter_eq_nil_iff.mpr fun q hq y => z ⟨q, hq, by have := and_dec y; omega⟩]
          rfl
        have e4 : b.room p.1 p.2 = some b.sz := by
          rw [e1, e2]
          cases b with
          | jar s f => show some (s + f * (t - t)) = some s; rw [Int.sub_self, Int.mul_zero, Int.add_zero]
          | win m s => exact if_pos (by have := ok.2.1; show t - t < s; omega)
        rw [e4] at hr
        cases hr
        omega
      have hu : ∀ t', t ≤ t' → usedIn vs p.1 p.2 ≤ usedIn vs p.1 t' := fun t' a => usedIn_mono hp (Int.le_refl _) (by omega)
      have eu : c + ((vs.filter fun q => decide (p.1 ≤ q.1) && decide (q.1 ≤ p.2)).map (·.2)).sum = usedIn vs p.1 p.2 + c := by
        show c + usedIn vs p.1 p.2 = _
        omega
      rw [eu]
      cases b with
      | win m s =>
        have hr' : (if p.2 - p.1 < s then some m else none) = some r := hr
        split at hr'
        · cases hr'
          refine ⟨fun l hl => ?_, fun z => nomatch z⟩
          cases hl
          refine ⟨by omega, fun t' a1 a2 => ?_⟩
          have := hu t' a1
          exact ⟨p.1, t', by omega, Int.le_refl _, .inr hmo, .inl rfl, _, if_pos (by omega), by omega⟩
        · cases hr'
      | jar s f =>
        have hr' : r = s + f * (p.2 - p.1) := by cases hr; rfl
        have hf := ok.2.1
        show (∀ l, (if f = 0 then none else some (p.1 + (usedIn vs p.1 p.2 + c - s + f - 1) / f)) = some l → _) ∧ ((if f = 0 then none else some (p.1 + (usedIn vs p.1 p.2 + c - s + f - 1) / f)) = none → _)
        by_cases c3 : f = 0
        · rw [if_pos c3]
          refine ⟨fun l hl => (nomatch hl), fun _ t' a1 => ?_⟩
          have := hu t' a1
          refine ⟨p.1, t', by omega, Int.le_refl _, .inr hmo, .inl rfl, s + f * (t' - p.1), rfl, ?_⟩
          subst c3
          rw [Int.zero_mul] at hr' ⊢
          omega
        · rw [if_neg c3]
          have hf2 : 0 < f := by omega
          refine ⟨fun l hl => ?_, fun z => nomatch z⟩
          cases hl
          have key : ∀ t', t' < p.1 + (usedIn vs p.1 p.2 + c - s + f - 1) / f → s + f * (t' - p.1) < usedIn vs p.1 p.2 + c := fun t' a => by
            have h5 : (t' - p.1 + 1) * f ≤ usedIn vs p.1 p.2 + c - s + f - 1 := (Int.le_ediv_iff_mul_le hf2).mp (by omega)
            have h6 : (t' - p.1 + 1) * f = f * (t' - p.1) + f := by rw [Int.add_mul, Int.one_mul, Int.mul_comm]
            omega
          refine ⟨?_, fun t' a1 a2 => ?_⟩
          · have h7 : (t - p.1 + 1) ≤ (usedIn vs p.1 p.2 + c - s + f - 1) / f := (Int.le_ediv_iff_mul_le hf2).mpr (by
              have h6 : (t - p.1 + 1) * f = f * (t - p.1) + f := by rw [Int.add_mul, Int.one_mul, Int.mul_comm]
              rw [e2] at hr'
              omega)
            omega
          · have := hu t' a1
            have := key t' a2
            exact ⟨p.1, t', by omega, Int.le_refl _, .inr hmo, .inl rfl, s + f * (t' - p.1), rfl, by omega⟩
theorem sum_filter_split {ws as bs cs : Vs} {x y : Int} (h : ws = as ++ bs ++ cs) (h1 : ∀ q ∈ as, q.1 < x) (h2 : ∀ q ∈ bs, x ≤ q.1 ∧ q.1 ≤ y) (h3 : ∀ q ∈ cs, y < q.1) : usedIn ws x y = (bs.map (·.2)).sum := by
  subst h
  rw [usedIn_append, usedIn_append]
  have e1 : usedIn as x y = 0 := by
    unfold usedIn
    rw [List.filter_eq_nil_iff.mpr fun q hq z => by have := and_dec z; have := h1 q hq; omega]; rfl
  have e3 : usedIn cs x y = 0 := by
    unfold usedIn
    rw [List.filter_eq_nil_iff.mpr fun q hq z => by have := and_dec z; have := h3 q hq; omega]; rfl
  have e2 : usedIn bs x y = (bs.map (·.2)).sum := by
    unfold usedIn
    rw [List.filter_eq_self.mpr fun q hq => by have := h2 q hq; rw [decide_eq_true this.1, decide_eq_true this.2]; rfl]
  omega
def SrtE (ws : Vs) : Prop := ws.Pairwise fun p q => p.1 ≤ q.1
theorem SrtE.le {ws : Vs} (h : SrtE ws) {i j : Nat} (hij : i ≤ j) (hj : j < ws.length) : (vAt ws i).1 ≤ (vAt ws j).1 := by
  by_cases z : i = j
  · rw [z]; exact Int.le_refl _
  · have hi : i < ws.length := by omega
    have := List.pairwise_iff_getElem.mp h i j hi hj (by omega)
    unfold vAt
    rw [List.getD_eq_getElem?_getD, List.getD_eq_getElem?_getD, List.getElem?_eq_getElem hi, List.getElem?_eq_getElem hj]
    exact this
theorem vAt_of {ws : Vs} {i : Nat} {q : Int × Int} (h : ws[i]? = some q) : vAt ws i = q := by
  unfold vAt
  rw [List.getD_eq_getElem?_getD, h]; rfl
/-- a stretch from a first to a last visit holds just the visits between its moments -/
theorem used_between {ws : Vs} (hs : SrtE ws) {a e : Nat} (hae : a ≤ e) (he : e < ws.length) (hf : isFst ws a = true) (hl : isLast ws e = true) : usedAE ws a e = usedIn ws (vAt ws a).1 (vAt ws e).1 := by
  have split3 : ws = ws.take a ++ (ws.drop a).take (e + 1 - a) ++ ws.drop (e + 1) := by
    rw [List.append_assoc]
    conv => lhs; rw [← List.take_append_drop a ws]
    congr 1
    conv => lhs; rw [← List.take_append_drop (e + 1 - a) (ws.drop a)]
    rw [List.drop_drop]
    congr 2
    omega
  refine (sum_filter_split split3 (fun q hq => ?_) (fun q hq => ?_) (fun q hq => ?_)).symm
  · obtain ⟨i, hi⟩ := List.getElem?_of_mem hq
    have hil := (List.getElem?_eq_some_iff.mp hi).1
    rw [List.length_take] at hil
    rw [List.getElem?_take, if_pos (by omega)] at hi
    rw [← vAt_of hi]
    have h1 := hs.le (show i ≤ a - 1 by omega) (by omega)
    have h2 := hs.le (show a - 1 ≤ a by omega) (by omega)
    have h3 : (vAt ws (a - 1)).1 ≠ (vAt ws a).1 := fun z => by
      unfold isFst at hf
      rw [decide_eq_true (show 0 < a by omega), decide_eq_true z] at hf
      cases hf
    omega
  · obtain ⟨i, hi⟩ := List.getElem?_of_mem hq
    have hil := (List.getElem?_eq_some_iff.mp hi).1
    rw [List.length_take, List.length_drop] at hil
    rw [List.getElem?_take, if_pos (by omega), List.getElem?_drop] at hi
    rw [← vAt_of hi]
    exact ⟨hs.le (by omega) (by omega), hs.le (by omega) he⟩
  · obtain ⟨i, hi⟩ := List.getElem?_of_mem hq
    have hil := (List.getElem?_eq_some_iff.mp hi).1
    rw [List.length_drop] at hil
    rw [List.getElem?_drop] at hi
    rw [← vAt_of hi]
    have h1 := hs.le (show e + 1 ≤ e + 1 + i by omega) (by omega)
    unfold isLast at hl
    rw [decide_eq_false (show ¬ e + 1 = ws.length by omega), Bool.false_or] at hl
    have h2 := of_decide_eq_true hl
    omega
def cntL (ws : Vs) (z : Int) : Nat := (ws.filter fun q => decide (q.1 < z)).length
theorem cntL_iff {z : Int} : ∀ {ws : Vs} {i : Nat}, SrtE ws → i < ws.length → (i < cntL ws z ↔ (vAt ws i).1 < z)
  | v :: r, i, h, hi => by
    obtain ⟨h1, h2⟩ := List.pairwise_cons.mp h
    unfold cntL
    rw [List.filter_cons]
    by_cases c : v.1 < z
    · rw [if_pos (decide_eq_true c), List.length_cons]
      cases i with
      | zero => exact ⟨fun _ => c, fun _ => by omega⟩
      | succ i =>
        have ih := cntL_iff (z := z) (ws := r) (i := i) h2 (Nat.lt_of_succ_lt_succ hi)
        unfold cntL at ih
        show _ ↔ (vAt r i).1 < z
        rw [← ih]
        omega
    · rw [if_neg (by simpa using c)]
      have e : r.filter (fun q => decide (q.1 < z)) = [] := List.filter_eq_nil_iff.mpr fun q hq y => by
        have := h1 q hq
        have := of_decide_eq_true y
        omega
      rw [e]
      refine ⟨fun y => absurd y (by simp), fun y => ?_⟩
      have := SrtE.le h (Nat.zero_le i) hi
      have : (vAt (v :: r) 0).1 = v.1 := rfl
      omega
theorem cntL_le (ws : Vs) (z : Int) : cntL ws z ≤ ws.length := List.length_filter_le _ _
theorem brokenAll_intro {b : Bd} {ws : Vs} {a e : Nat} (hae : a ≤ e) (he : e < ws.length) (hf : isFst ws a = true) (hb : brk b ws a e = true) : strAE ws a e ∈ brokenAll b ws := by
  unfold brokenAll brokenTo
  refine List.mem_flatMap.mpr ⟨a, List.mem_filter.mpr ⟨List.mem_range.mpr (by omega), hf⟩, ?_⟩
  unfold rowB
  exact List.mem_map.mpr ⟨e, List.mem_filter.mpr ⟨List.mem_range'_1.mpr (by omega), hb⟩, rfl⟩
theorem brokenAll_elim {b : Bd} {ws : Vs} {p : Int × Int} (h : p ∈ brokenAll b ws) : ∃ a e, a ≤ e ∧ e < ws.length ∧ isFst ws a = true ∧ p = strAE ws a e ∧ brk b ws a e = true := by
  unfold brokenAll brokenTo at h
  obtain ⟨a, ha, h2⟩ := List.mem_flatMap.mp h
  have hal := List.mem_range.mp (List.mem_filter.mp ha).1
  unfold rowB at h2
  obtain ⟨e, he, rfl⟩ := List.mem_map.mp h2
  obtain ⟨he1, he2⟩ := List.mem_filter.mp he
  have := List.mem_range'_1.mp he1
  exact ⟨a, e, by omega, by omega, (List.mem_filter.mp ha).2, rfl, he2⟩
theorem Mo.at {ws : Vs} {x : Int} (h : Mo ws x) : ∃ i, i < ws.length ∧ (vAt ws i).1 = x := by
  obtain ⟨q, hq, rfl⟩ := h
  obtain ⟨i, hi⟩ := List.getElem?_of_mem hq
  exact ⟨i, (List.getElem?_eq_some_iff.mp hi).1, by rw [vAt_of hi]⟩
/-- a stretch between moments that has more than its room is found -/
theorem broken_found {b : Bd} {ws : Vs} {x y r : Int} (hs : SrtE ws) (hx : Mo ws x) (hy : Mo ws y) (hxy : x ≤ y) (hr : b.room x y = some r) (hu : r < usedIn ws x y) : (x, y) ∈ brokenAll b ws := by
  obtain ⟨i, hi, ei⟩ := hx.at
  obtain ⟨j, hj, ej⟩ := hy.at
  have ai : ¬ i < cntL ws x := fun z => by have := (cntL_iff hs hi).mp z; omega
  have ha : cntL ws x < ws.length := by omega
  have ax1 : ¬ (vAt ws (cntL ws x)).1 < x := fun z => absurd ((cntL_iff hs ha).mpr z) (Nat.lt_irrefl _)
  have ax2 := hs.le (show cntL ws x ≤ i by omega) hi
  have ax : (vAt ws (cntL ws x)).1 = x := by omega
  have jy : j < cntL ws (y + 1) := (cntL_iff hs hj).mpr (by omega)
  have hy1 := cntL_le ws (y + 1)
  obtain ⟨e, he⟩ : ∃ e, cntL ws (y + 1) = e + 1 := ⟨cntL ws (y + 1) - 1, by omega⟩
  have hel : e < ws.length := by omega
  have ey1 := (cntL_iff (z := y + 1) hs hel).mp (by omega)
  have ey2 := hs.le (show j ≤ e by omega) hel
  have ey : (vAt ws e).1 = y := by omega
  have hae : cntL ws x ≤ e := by
    have := (cntL_iff (z := y + 1) hs ha).mpr (by omega)
    omega
  have hf : isFst ws (cntL ws x) = true := by
    unfold isFst
    by_cases z : 0 < cntL ws x
    · have := (cntL_iff (z := x) hs (show cntL ws x - 1 < ws.length by omega)).mp (by omega)
      rw [decide_eq_false (show ¬ (vAt ws (cntL ws x - 1)).1 = (vAt ws (cntL ws x)).1 by omega)]
      simp
    · rw [decide_eq_false z]; rfl
  have hl : isLast ws e = true := by
    unfold isLast
    by_cases z : e + 1 = ws.length
    · rw [decide_eq_true z]; rfl
    · have h1 : ¬ (vAt ws (e + 1)).1 < y + 1 := fun q => by
        have := (cntL_iff (z := y + 1) hs (show e + 1 < ws.length by omega)).mpr q
        omega
      rw [decide_eq_true (show (vAt ws e).1 < (vAt ws (e + 1)).1 by omega)]
      simp
  have hb : brk b ws (cntL ws x) e = true := by
    unfold brk over
    rw [hl, ax, ey, hr]
    show (true && decide (r < usedAE ws (cntL ws x) e)) = true
    rw [used_between hs hae hel hf hl, ax, ey, decide_eq_true hu]
    rfl
  have := brokenAll_intro hae hel hf hb
  unfold strAE at this
  rw [ax, ey] at this
  exact this
theorem with_mo {vs : Vs} {t c x : Int} (h : x = t ∨ Mo vs x) : Mo (withV vs t c) x := by
  rcases h with rfl | ⟨q, hq, rfl⟩
  · exact ⟨(x, c), by unfold withV; exact List.mem_append_left _ (List.mem_append_right _ (List.mem_singleton.mpr rfl)), rfl⟩
  · refine ⟨q, ?_, rfl⟩
    unfold withV
    rw [← List.take_append_drop (vs.filter fun p => decide (p.1 ≤ t)).length vs] at hq
    rcases List.mem_append.mp hq with h | h
    · exact List.mem_append_left _ (List.mem_append_left _ h)
    · exact List.mem_append_right _ h
theorem mo_with {vs : Vs} {t c x : Int} (h : Mo (withV vs t c) x) : x = t ∨ Mo vs x := by
  obtain ⟨q, hq, rfl⟩ := h
  rcases with_mem hq with rfl | hq
  · exact .inl rfl
  · exact .inr ⟨q, hq, rfl⟩
theorem bad_broken {b : Bd} {vs : Vs} {c t x y : Int} (hs : Srt vs) (h : BadS b vs c t x y) : (x, y) ∈ brokenAll b (withV vs t c) := by
  obtain ⟨h1, h2, h3, h4, r, hr, hlt⟩ := h
  refine broken_found (withV_srt hs) (with_mo h3) (with_mo h4) (by omega) hr ?_
  rw [usedIn_with, if_pos ⟨h1, h2⟩]
  exact hlt
theorem broken_bad {b : Bd} {vs : Vs} {c t : Int} {p : Int × Int} (hs : Srt vs) (keep : brokenAll b vs = []) (h : p ∈ brokenAll b (withV vs t c)) : BadS b vs c t p.1 p.2 := by
  obtain ⟨a, e, hae, he, hf, rfl, hb⟩ := brokenAll_elim h
  unfold brk at hb
  rw [Bool.and_eq_true] at hb
  obtain ⟨hl, ho⟩ := hb
  unfold over at ho
  have hu := used_between (withV_srt (t := t) (c := c) hs) hae he hf hl
  have hle := SrtE.le (withV_srt (t := t) (c := c) hs) hae he
  have m1 : Mo (withV vs t c) (vAt (withV vs t c) a).1 := ⟨_, vAt_mem (by omega), rfl⟩
  have m2 : Mo (withV vs t c) (vAt (withV vs t c) e).1 := ⟨_, vAt_mem he, rfl⟩
  show BadS b vs c t (vAt (withV vs t c) a).1 (vAt (withV vs t c) e).1
  generalize (vAt (withV vs t c) a).1 = x at *
  generalize (vAt (withV vs t c) e).1 = y at *
  cases hr : b.room x y with
  | none => rw [hr] at ho; cases ho
  | some r =>
    rw [hr] at ho
    have ho2 : r < usedAE (withV vs t c) a e := of_decide_eq_true ho
    rw [hu, usedIn_with] at ho2
    by_cases z : x ≤ t ∧ t ≤ y
    · rw [if_pos z] at ho2
      exact ⟨z.1, z.2, mo_with m1, mo_with m2, r, hr, ho2⟩
    · rw [if_neg z, Int.add_zero] at ho2
      exfalso
      have hx := (mo_with m1).resolve_left fun q => z ⟨by omega, by omega⟩
      have hy := (mo_with m2).resolve_left fun q => z ⟨by omega, by omega⟩
      have := broken_found hs hx hy hle hr ho2
      rw [keep] at this
      cases this
def Good (bs : List Bd) (vs : Vs) (c t : Int) : Prop := ∀ b ∈ bs, brokenAll b (withV vs t c) = []
theorem bad_not {b : Bd} {bs : List Bd} {vs : Vs} {c t : Int} (hs : Srt vs) (hb : b ∈ bs) (h : Bad b vs c t) : ¬ Good bs vs c t := fun g => by
  obtain ⟨x, y, h⟩ := h
  have := bad_broken hs h
  rw [g b hb] at this
  cases this
theorem big_bad {b : Bd} {vs : Vs} {c t : Int} (ok : b.ok) (hp : ∀ q ∈ vs, 0 ≤ q.2) (h : b.sz < c) : Bad b vs c t := by
  refine ⟨t, t, Int.le_refl _, Int.le_refl _, .inl rfl, .inl rfl, b.sz, ?_, ?_⟩
  · cases b with
    | jar s f => show some (s + f * (t - t)) = some s; rw [Int.sub_self, Int.mul_zero, Int.add_zero]
    | win m s => exact if_pos (by have := ok.2.1; show t - t < s; omega)
  · have := usedIn_nonneg hp t t
    omega
theorem tryS_spec {b : Bd} {vs : Vs} {c t : Int} (hs : Srt vs) (ok : b.ok) (hp : ∀ q ∈ vs, 0 ≤ q.2) (hc : c ≤ b.sz) : ∀ {ps : List (Int × Int)} {f : Int}, (∀ p ∈ ps, BadS b vs c t p.1 p.2) → t ≤ f →
    (∀ g, tryS b vs t c f ps = some g → f ≤ g ∧ (∀ t', f ≤ t' → t' < g → Bad b vs c t') ∧ (g = t → ps = [])) ∧ (tryS b vs t c f ps = none → ∀ t', t ≤ t' → Bad b vs c t')
  | [], f, _, hf => ⟨fun g h => by cases h; exact ⟨Int.le_refl _, fun t' a b => absurd a (by omega), fun _ => rfl⟩, fun h => nomatch h⟩
  | p :: r, f, h, hf => by
    obtain ⟨k1, k2⟩ := behind_later ok hp hc (h p List.mem_cons_self)
    cases e : behindV b vs t c p with
    | none => exact ⟨fun g hg => (by rw [tryS_none e] at hg; cases hg), fun _ => k2 e⟩
    | some l =>
      obtain ⟨l1, l2⟩ := k1 l e
      have ih := tryS_spec hs ok hp hc (ps := r) (f := max f l) (fun q hq => h q (List.mem_cons_of_mem _ hq)) (by omega)
      rw [tryS_some e]
      refine ⟨fun g hg => ?_, ih.2⟩
      obtain ⟨a1, a2, _⟩ := ih.1 g hg
      refine ⟨by omega, fun t' b1 b2 => ?_, fun z => absurd z (by omega)⟩
      by_cases z : t' < l
      · exact l2 t' (by omega) z
      · exact a2 t' (by omega) b2
theorem tryB_spec {vs : Vs} {c t : Int} (hs : Srt vs) (hp : ∀ q ∈ vs, 0 ≤ q.2) : ∀ {bs : List Bd} {f : Int}, (∀ b ∈ bs, b.ok ∧ brokenAll b vs = []) → t ≤ f →
    (∀ g, tryB vs t c f bs = some g → f ≤ g ∧ (∀ t', f ≤ t' → t' < g → ∃ b ∈ bs, Bad b vs c t') ∧ (g = t → ∀ b ∈ bs, brokenAll b (withV vs t c) = [])) ∧ (tryB vs t c f bs = none → ∀ t', t ≤ t' → ∃ b ∈ bs, Bad b vs c t')
  | [], f, _, hf => ⟨fun g h => by cases h; exact ⟨Int.le_refl _, fun t' a b => absurd a (by omega), fun _ b hb => (nomatch hb)⟩, fun h => nomatch h⟩
  | b :: r, f, h, hf => by
    obtain ⟨ok, keep⟩ := h b List.mem_cons_self
    by_cases hc : b.sz < c
    · exact ⟨fun g hg => (by rw [tryB_big hc] at hg; cases hg), fun _ t' _ => ⟨b, List.mem_cons_self, big_bad ok hp hc⟩⟩
    · have hS := tryS_spec hs ok hp (show c ≤ b.sz by omega) (ps := brokenAll b (withV vs t c)) (f := f) (fun p hpm => broken_bad hs keep hpm) hf
      cases e : tryS b vs t c f (brokenAll b (withV vs t c)) with
      | none => exact ⟨fun g hg => (by rw [tryB_none hc e] at hg; cases hg), fun _ t' a => ⟨b, List.mem_cons_self, hS.2 e t' a⟩⟩
      | some g1 =>
        obtain ⟨s1, s2, s3⟩ := hS.1 g1 e
        have ih := tryB_spec (c := c) (t := t) hs hp (bs := r) (f := g1) (fun d hd => h d (List.mem_cons_of_mem _ hd)) (by omega)
        rw [tryB_some hc e]
        refine ⟨fun g hg => ?_, fun hn t' a => ?_⟩
        · obtain ⟨a1, a2, a3⟩ := ih.1 g hg
          refine ⟨by omega, fun t' b1 b2 => ?_, fun z d hd => ?_⟩
          · by_cases q : t' < g1
            · exact ⟨b, List.mem_cons_self, s2 t' b1 q⟩
            · obtain ⟨d, hd, h2⟩ := a2 t' (by omega) b2
              exact ⟨d, List.mem_cons_of_mem _ hd, h2⟩
          · rcases List.mem_cons.mp hd with rfl | hd
            · exact s3 (by omega)
            · exact a3 z d hd
        · obtain ⟨d, hd, h2⟩ := ih.2 hn t' a
          exact ⟨d, List.mem_cons_of_mem _ hd, h2⟩
/-- the next try: all moments ahead of it are bad, and it is the moment itself just where that is good -/
theorem nextTry_spec {bs : List Bd} {vs : Vs} {c t : Int} (hs : Srt vs) (hp : ∀ q ∈ vs, 0 ≤ q.2) (hb : ∀ b ∈ bs, b.ok ∧ brokenAll b vs = []) :
    (∀ g, nextTry bs vs t c = some g → t ≤ g ∧ (∀ t', t ≤ t' → t' < g → ¬ Good bs vs c t') ∧ (g = t → Good bs vs c t)) ∧ (nextTry bs vs t c = none → ∀ t', t ≤ t' → ¬ Good bs vs c t') := by
  obtain ⟨h1, h2⟩ := tryB_spec (t := t) (c := c) hs hp hb (Int.le_refl t)
  refine ⟨fun g hg => ?_, fun hn t' a => ?_⟩
  · obtain ⟨a1, a2, a3⟩ := h1 g hg
    refine ⟨a1, fun t' b1 b2 => ?_, a3⟩
    obtain ⟨b, hb, h⟩ := a2 t' b1 b2
    exact bad_not hs hb h
  · obtain ⟨b, hb, h⟩ := h2 hn t' a
    exact bad_not hs hb h
/-- the least good moment from t on, if there is one -/
def LeastG (bs : List Bd) (vs : Vs) (c t : Int) : Option Int → Prop
  | none => ∀ t', t ≤ t' → ¬ Good bs vs c t'
  | some m => t ≤ m ∧ Good bs vs c m ∧ ∀ t', t ≤ t' → t' < m → ¬ Good bs vs c t'
theorem earN_least {bs : List Bd} {vs : Vs} {c : Int} (hs : Srt vs) (hp : ∀ q ∈ vs, 0 ≤ q.2) (hb : ∀ b ∈ bs, b.ok ∧ brokenAll b vs = []) : ∀ {n : Nat} {t : Int} {r : Option Int}, EarN bs vs c n t r → LeastG bs vs c t r
  | 0, t, r, h => by
    obtain ⟨s1, s2⟩ := nextTry_spec (t := t) (c := c) hs hp hb
    rcases h with ⟨e, rfl⟩ | ⟨e, rfl⟩
    · exact s2 e
    · exact ⟨Int.le_refl _, (s1 t e).2.2 rfl, fun t' a b => absurd a (by omega)⟩
  | n + 1, t, r, h => by
    obtain ⟨t1, e, hne, h2⟩ := h
    obtain ⟨a1, a2, _⟩ := (nextTry_spec (t := t) (c := c) hs hp hb).1 t1 e
    have ih := earN_least hs hp hb h2
    cases r with
    | none =>
      intro t' b
      by_cases z : t' < t1
      · exact a2 t' b z
      · exact ih t' (by omega)
    | some m =>
      obtain ⟨i1, i2, i3⟩ := ih
      refine ⟨by omega, i2, fun t' b1 b2 => ?_⟩
      by_cases z : t' < t1
      · exact a2 t' b1 z
      · exact i3 t' (by omega) b2
theorem least_uniq {bs : List Bd} {vs : Vs} {c t : Int} {r q : Option Int} (h1 : LeastG bs vs c t r) (h2 : LeastG bs vs c t q) : r = q := by
  cases r with
  | none =>
    cases q with
    | none => rfl
    | some m => exact absurd h2.2.1 (h1 m h2.1)
  | some m =>
    cases q with
    | none => exact absurd h1.2.1 (h2 m h1.1)
    | some k =>
      obtain ⟨a1, a2, a3⟩ := h1
      obtain ⟨b1, b2, b3⟩ := h2
      have x1 : ¬ k < m := fun z => a3 k b1 z b2
      have x2 : ¬ m < k := fun z => b3 m a1 z a2
      congr 1
      omega
theorem behind_le {b : Bd} {vs : Vs} {c t M T l : Int} {p : Int × Int} (ok : b.ok) (hp : ∀ q ∈ vs, 0 ≤ q.2) (hc0 : 0 ≤ c) (hc : c ≤ b.sz) (hM : ∀ q ∈ vs, q.1 ≤ M) (hT : ∀ x y, usedIn vs x y ≤ T) (hb : BadS b vs c t p.1 p.2) (h : behindV b vs t c p = some l) : l ≤ M + 1000000000001 + T + c := by
  have hT0 : 0 ≤ T := Int.le_trans (usedIn_nonneg hp 0 0) (hT 0 0)
  obtain ⟨h1, h2, h3, h4, r, hr, hlt⟩ := hb
  have mo : ∀ {x : Int}, Mo vs x → x ≤ M := fun ⟨q, hq, e⟩ => by have := hM q hq; omega
  unfold behindV at h
  by_cases c1 : t < p.2 ∧ p.1 < t
  · rw [if_pos c1] at h
    cases h
    have := mo (h4.resolve_left (by omega))
    omega
  · rw [if_neg c1] at h
    by_cases c2 : t < p.2
    · rw [if_pos c2] at h
      cases h
      obtain ⟨q, hq, hq2⟩ := h4.resolve_left (by omega)
      have hmem : q.1 ∈ (vs.filter fun q => decide (t ≤ q.1)).map (·.1) := List.mem_map.mpr ⟨q, List.mem_filter.mpr ⟨hq, decide_eq_true (by omega)⟩, rfl⟩
      have hm1 := minL_le hmem
      have := hM q hq
      omega
    · rw [if_neg c2] at h
      have e2 : p.2 = t := by omega
      have hmo : p.1 ≤ M := by
        refine mo ?_
        refine Classical.byContradiction fun z => ?_
        have e1 : p.1 = t := h3.resolve_right z
        have e3 : usedIn vs p.1 p.2 = 0 := by
          unfold usedIn
          rw [show (vs.filter fun q => decide (p.1 ≤ q.1) && decide (q.1 ≤ p.2)) = [] from List.filter_eq_nil_iff.mpr fun q hq y => z ⟨q, hq, by have := and_dec y; omega⟩]
          rfl
        have e4 : b.room p.1 p.2 = some b.sz := by
          rw [e1, e2]
          cases b with
          | jar s f => show some (s + f * (t - t)) = some s; rw [Int.sub_self, Int.mul_zero, Int.add_zero]
          | win m s => exact if_pos (by have := ok.2.1; show t - t < s; omega)
        rw [e4] at hr
        cases hr
        omega
      have eu : c + ((vs.filter fun q => decide (p.1 ≤ q.1) && decide (q.1 ≤ p.2)).map (·.2)).sum = usedIn vs p.1 p.2 + c := by
        show c + usedIn vs p.1 p.2 = _
        omega
      rw [eu] at h
      have hu := hT p.1 p.2
      have hu0 := usedIn_nonneg hp p.1 p.2
      cases b with
      | win m s => cases h; have := ok.2.2; omega
      | jar s f =>
        have h' : (if f = 0 then none else some (p.1 + (usedIn vs p.1 p.2 + c - s + f - 1) / f)) = some l := h
        have hs1 : 1 ≤ s := ok.1.1
        have hf := ok.2.1
        by_cases c3 : f = 0
        · rw [if_pos c3] at h'; cases h'
        · rw [if_neg c3] at h'
          cases h'
          have h5 : (usedIn vs p.1 p.2 + c - s + f - 1) / f ≤ usedIn vs p.1 p.2 + c := by
            refine Int.ediv_le_of_le_mul (by omega) ?_
            have h6 : (usedIn vs p.1 p.2 + c) * 1 ≤ (usedIn vs p.1 p.2 + c) * f := Int.mul_le_mul_of_nonneg_left (by omega) (by omega)
            by_cases q : 1 ≤ usedIn vs p.1 p.2 + c
            · have h7 : 0 ≤ (usedIn vs p.1 p.2 + c - 1) * (f - 1) := Int.mul_nonneg (by omega) (by omega)
              have h8 : (usedIn vs p.1 p.2 + c - 1) * (f - 1) = (usedIn vs p.1 p.2 + c) * f - (usedIn vs p.1 p.2 + c) - f + 1 := by
                rw [Int.sub_mul, Int.mul_sub, Int.mul_one, Int.one_mul]; omega
              omega
            · exfalso
              have h9 : usedIn vs p.1 p.2 + c = 0 := by omega
              rw [show r = s + f * (p.2 - p.1) by cases hr; rfl, h9] at hlt
              have := Int.mul_nonneg hf (show 0 ≤ p.2 - p.1 by omega)
              omega
          omega
theorem tryS_le {b : Bd} {vs : Vs} {c t M T : Int} (ok : b.ok) (hp : ∀ q ∈ vs, 0 ≤ q.2) (hc0 : 0 ≤ c) (hc : c ≤ b.sz) (hM : ∀ q ∈ vs, q.1 ≤ M) (hT : ∀ x y, usedIn vs x y ≤ T) : ∀ {ps : List (Int × Int)} {f g : Int}, (∀ p ∈ ps, BadS b vs c t p.1 p.2) →
    tryS b vs t c f ps = some g → g = f ∨ g ≤ max f (M + 1000000000001 + T + c)
  | [], f, g, _, h => by cases h; exact .inl rfl
  | p :: r, f, g, hb, h => by
    cases e : behindV b vs t c p with
    | none => rw [tryS_none e] at h; cases h
    | some l =>
      rw [tryS_some e] at h
      have hl := behind_le ok hp hc0 hc hM hT (hb p List.mem_cons_self) e
      rcases tryS_le ok hp hc0 hc hM hT (fun q hq => hb q (List.mem_cons_of_mem _ hq)) h with z | z
      · exact .inr (by omega)
      · exact .inr (by omega)
theorem tryB_le {vs : Vs} {c t M T : Int} (hs : Srt vs) (hp : ∀ q ∈ vs, 0 ≤ q.2) (hc0 : 0 ≤ c) (hM : ∀ q ∈ vs, q.1 ≤ M) (hT : ∀ x y, usedIn vs x y ≤ T) : ∀ {bs : List Bd} {f g : Int}, (∀ b ∈ bs, b.ok ∧ brokenAll b vs = []) →
    tryB vs t c f bs = some g → g = f ∨ g ≤ max f (M + 1000000000001 + T + c)
  | [], f, g, _, h => by cases h; exact .inl rfl
  | b :: r, f, g, hb, h => by
    obtain ⟨ok, keep⟩ := hb b List.mem_cons_self
    by_cases hc : b.sz < c
    · rw [tryB_big hc] at h; cases h
    · cases e : tryS b vs t c f (brokenAll b (withV vs t c)) with
      | none => rw [tryB_none hc e] at h; cases h
      | some g1 =>
        rw [tryB_some hc e] at h
        have h1 := tryS_le ok hp hc0 (show c ≤ b.sz by omega) hM hT (fun p hpm => broken_bad hs keep hpm) e
        have h2 := tryB_le hs hp hc0 hM hT (fun d hd => hb d (List.mem_cons_of_mem _ hd)) h
        omega
/-- the tries come to an end -/
theorem earN_ex {bs : List Bd} {vs : Vs} {c M T : Int} (hs : Srt vs) (hp : ∀ q ∈ vs, 0 ≤ q.2) (hc0 : 0 ≤ c) (hb : ∀ b ∈ bs, b.ok ∧ brokenAll b vs = []) (hM : ∀ q ∈ vs, q.1 ≤ M) (hT : ∀ x y, usedIn vs x y ≤ T) :
    ∀ (k : Nat) (t : Int), M + 1000000000001 + T + c - t < k → ∃ n r, EarN bs vs c n t r
  | k, t, hk => by
    cases e : nextTry bs vs t c with
    | none => exact ⟨0, none, .inl ⟨e, rfl⟩⟩
    | some g =>
      by_cases z : g = t
      · exact ⟨0, some t, .inr ⟨by rw [e, z], rfl⟩⟩
      · have h1 := ((nextTry_spec (t := t) (c := c) hs hp hb).1 g e).1
        have h2 := tryB_le hs hp hc0 hM hT hb (show tryB vs t c t bs = some g from e)
        cases k with
        | zero => exfalso; omega
        | succ k =>
          obtain ⟨n, r, h⟩ := earN_ex hs hp hc0 hb hM hT k g (by omega)
          exact ⟨n + 1, r, g, e, z, h⟩
/-- the least good moment behind t is what a try one moment ahead of it tells -/
theorem least_behind {bs : List Bd} {vs : Vs} {c t m : Int} (hs : Srt vs) (hp : ∀ q ∈ vs, 0 ≤ q.2) (hb : ∀ b ∈ bs, b.ok ∧ brokenAll b vs = []) (h : LeastG bs vs c t (some m)) (ht : t < m) :
    ∃ b ∈ bs, ∃ p : Int × Int, BadS b vs c (m - 1) p.1 p.2 ∧ behindV b vs (m - 1) c p = some m ∧ c ≤ b.sz := by
  obtain ⟨_, g, l⟩ := h
  have hng := l (m - 1) (by omega) (by omega)
  obtain ⟨b, hbm, p, hpm⟩ : ∃ b ∈ bs, ∃ p, p ∈ brokenAll b (withV vs (m - 1) c) := by
    refine Classical.byContradiction fun z => hng fun b hbm => ?_
    cases e : brokenAll b (withV vs (m - 1) c) with
    | nil => rfl
    | cons p r => exact absurd ⟨b, hbm, p, by rw [e]; exact List.mem_cons_self⟩ z
  obtain ⟨ok, keep⟩ := hb b hbm
  have hbad := broken_bad hs keep hpm
  have hc : c ≤ b.sz := by
    refine Int.not_lt.mp fun z => ?_
    exact bad_not hs hbm (big_bad ok hp z) g
  obtain ⟨k1, k2⟩ := behind_later ok hp hc hbad
  cases e : behindV b vs (m - 1) c p with
  | none => exact absurd g (bad_not hs hbm (k2 e m (by omega)))
  | some x =>
    obtain ⟨x1, x2⟩ := k1 x e
    by_cases z : m < x
    · exact absurd g (bad_not hs hbm (x2 m (by omega) z))
    · exact ⟨b, hbm, p, hbad, by rw [e]; congr 1; omega, hc⟩

/-! ### k10: the moments at which a visit can begin to fit -/
def candB (v used : Int) : Bd → List Int
  | .win _ s => [v + s]
  | .jar s f => if 0 < f then [v + (used - s + f - 1) / f] else []
def candE (bs : List Bd) (vs : Vs) (c : Int) (k i : Nat) : List Int := (List.range i).flatMap fun j => bs.flatMap (candB (vAt vs k).1 (c + usedL vs k (j + 1)))
def candT (bs : List Bd) (vs : Vs) (c : Int) (j : Nat) : List Int := (List.range j).flatMap fun k => [(vAt vs k).1 + 1] ++ candE bs vs c k (vs.length - k)
def cands (bs : List Bd) (vs : Vs) (t c : Int) : List Int := [t] ++ candT bs vs c vs.length
theorem candT_succ (bs : List Bd) (vs : Vs) (c : Int) (j : Nat) : candT bs vs c (j + 1) = candT bs vs c j ++ ([(vAt vs j).1 + 1] ++ candE bs vs c j (vs.length - j)) := by
  unfold candT
  rw [List.range_succ, List.flatMap_append]
  simp
theorem candE_succ (bs : List Bd) (vs : Vs) (c : Int) (k i : Nat) : candE bs vs c k (i + 1) = candE bs vs c k i ++ bs.flatMap (candB (vAt vs k).1 (c + usedL vs k (i + 1))) := by
  unfold candE
  rw [List.range_succ, List.flatMap_append]
  simp
theorem candB_len (v u : Int) (b : Bd) : (candB v u b).length ≤ 1 := by
  cases b with
  | jar s f => show (if 0 < f then [v + (u - s + f - 1) / f] else []).length ≤ 1; split <;> simp
  | win m s => exact Nat.le_refl _
theorem flat_len {α β : Type} (f : α → List β) (m : Nat) : ∀ {xs : List α}, (∀ x ∈ xs, (f x).length ≤ m) → (xs.flatMap f).length ≤ xs.length * m
  | [], _ => by simp
  | x :: r, h => by
    rw [List.flatMap_cons, List.length_append, List.length_cons, Nat.succ_mul]
    have := h x List.mem_cons_self
    have := flat_len f m (xs := r) fun y hy => h y (List.mem_cons_of_mem _ hy)
    omega
theorem candE_len {bs : List Bd} (hb : bs.length ≤ 4) (vs : Vs) (c : Int) (k i : Nat) : (candE bs vs c k i).length ≤ i * 4 := by
  unfold candE
  have := flat_len (fun j => bs.flatMap (candB (vAt vs k).1 (c + usedL vs k (j + 1)))) 4 (xs := List.range i) fun j _ => by
    have := flat_len (candB (vAt vs k).1 (c + usedL vs k (j + 1))) 1 (xs := bs) fun b _ => candB_len _ _ b
    omega
  rw [List.length_range] at this
  exact this
theorem candT_len {bs : List Bd} (hb : bs.length ≤ 4) {vs : Vs} (hv : vs.length ≤ 10) (c : Int) (j : Nat) : (candT bs vs c j).length ≤ j * 41 := by
  unfold candT
  have := flat_len (fun k => [(vAt vs k).1 + 1] ++ candE bs vs c k (vs.length - k)) 41 (xs := List.range j) fun k _ => by
    rw [List.length_append]
    have := candE_len hb vs c k (vs.length - k)
    simp only [List.length_cons, List.length_nil]
    omega
  rw [List.length_range] at this
  exact this
theorem mem_candT {bs : List Bd} {vs : Vs} {c x : Int} {k : Nat} (hk : k < vs.length) (h : x = (vAt vs k).1 + 1 ∨ x ∈ candE bs vs c k (vs.length - k)) : x ∈ candT bs vs c vs.length :=
  List.mem_flatMap.mpr ⟨k, List.mem_range.mpr hk, h.elim (fun e => by rw [e]; exact List.mem_append_left _ List.mem_cons_self) fun h => List.mem_append_right _ h⟩
theorem mem_candE {bs : List Bd} {vs : Vs} {c x : Int} {k e : Nat} {b : Bd} (hb : b ∈ bs) (h1 : k ≤ e) (h2 : e < vs.length) (h : x ∈ candB (vAt vs k).1 (c + usedAE vs k e) b) : x ∈ candE bs vs c k (vs.length - k) :=
  List.mem_flatMap.mpr ⟨e - k, List.mem_range.mpr (by omega), List.mem_flatMap.mpr ⟨b, hb, by unfold usedAE at h; rw [show e + 1 - k = e - k + 1 by omega] at h; exact h⟩⟩
/-- from a visit's moment on: the first visit of that moment, the last one up to another, and what is used between -/
theorem used_upto {vs : Vs} (hs : SrtE vs) {x y : Int} (hx : Mo vs x) (hxy : x ≤ y) : ∃ k e, k ≤ e ∧ e < vs.length ∧ (vAt vs k).1 = x ∧ x ≤ (vAt vs e).1 ∧ (vAt vs e).1 ≤ y ∧ usedAE vs k e = usedIn vs x y ∧ usedIn vs x (vAt vs e).1 = usedIn vs x y := by
  obtain ⟨i, hi, ei⟩ := hx.at
  have ai : ¬ i < cntL vs x := fun z => by have := (cntL_iff hs hi).mp z; omega
  have ha : cntL vs x < vs.length := by omega
  have ax1 : ¬ (vAt vs (cntL vs x)).1 < x := fun z => absurd ((cntL_iff hs ha).mpr z) (Nat.lt_irrefl _)
  have ax2 := hs.le (show cntL vs x ≤ i by omega) hi
  have ax : (vAt vs (cntL vs x)).1 = x := by omega
  have iy : i < cntL vs (y + 1) := (cntL_iff hs hi).mpr (by omega)
  have hy1 := cntL_le vs (y + 1)
  obtain ⟨e, he⟩ : ∃ e, cntL vs (y + 1) = e + 1 := ⟨cntL vs (y + 1) - 1, by omega⟩
  have hel : e < vs.length := by omega
  have ey1 := (cntL_iff (z := y + 1) hs hel).mp (by omega)
  have ey2 := hs.le (show i ≤ e by omega) hel
  have hae : cntL vs x ≤ e := by omega
  have hf : isFst vs (cntL vs x) = true := by
    unfold isFst
    by_cases z : 0 < cntL vs x
    · have := (cntL_iff (z := x) hs (show cntL vs x - 1 < vs.length by omega)).mp (by omega)
      rw [decide_eq_false (show ¬ (vAt vs (cntL vs x - 1)).1 = (vAt vs (cntL vs x)).1 by omega)]
      simp
    · rw [decide_eq_false z]; rfl
  have nxt : ∀ q ∈ vs, q.1 ≤ y → q.1 ≤ (vAt vs e).1 := fun q hq hqy => by
    obtain ⟨j, hj⟩ := List.getElem?_of_mem hq
    have hjl := (List.getElem?_eq_some_iff.mp hj).1
    have ej := vAt_of hj
    have := (cntL_iff (z := y + 1) hs hjl).mpr (by rw [ej]; omega)
    have h := hs.le (show j ≤ e by omega) hel
    rw [ej] at h
    exact h
  have hl : isLast vs e = true := by
    unfold isLast
    by_cases z : e + 1 = vs.length
    · rw [decide_eq_true z]; rfl
    · have h1 : ¬ (vAt vs (e + 1)).1 < y + 1 := fun q => by
        have := (cntL_iff (z := y + 1) hs (show e + 1 < vs.length by omega)).mpr q
        omega
      rw [decide_eq_true (show (vAt vs e).1 < (vAt vs (e + 1)).1 by omega)]
      simp
  have ue : usedIn vs x (vAt vs e).1 = usedIn vs x y := by
    unfold usedIn
    congr 2
    refine List.filter_congr fun q hq => ?_
    congr 1
    exact decide_eq_decide.mpr ⟨fun z => by omega, fun z => nxt q hq z⟩
  refine ⟨cntL vs x, e, hae, hel, ax, by omega, by omega, ?_, ue⟩
  rw [used_between hs hae hel hf hl, ax, ue]
/-- what the third way of going behind a stretch tells -/
theorem behind_third {b : Bd} {vs : Vs} {c t m : Int} {p : Int × Int} (ok : b.ok) (hp : ∀ q ∈ vs, 0 ≤ q.2) (hc : c ≤ b.sz) (hb : BadS b vs c t p.1 p.2) (h : behindV b vs t c p = some m) :
    (∃ x, Mo vs x ∧ m = x + 1) ∨ (Mo vs p.1 ∧ p.1 ≤ t ∧ filledAt b (c + usedIn vs p.1 t) p.1 = some m) := by
  obtain ⟨h1, h2, h3, h4, r, hr, hlt⟩ := hb
  unfold behindV at h
  by_cases c1 : t < p.2 ∧ p.1 < t
  · rw [if_pos c1] at h
    cases h
    exact .inl ⟨p.2, h4.resolve_left (by omega), rfl⟩
  · rw [if_neg c1] at h
    by_cases c2 : t < p.2
    · rw [if_pos c2] at h
      cases h
      obtain ⟨q, hq, hq2⟩ := h4.resolve_left (by omega)
      have hmem : q.1 ∈ (vs.filter fun q => decide (t ≤ q.1)).map (·.1) := List.mem_map.mpr ⟨q, List.mem_filter.mpr ⟨hq, decide_eq_true (by omega)⟩, rfl⟩
      obtain ⟨z, hz, hz2⟩ := List.mem_map.mp (minL_mem (List.ne_nil_of_mem hmem))
      exact .inl ⟨_, ⟨z, (List.mem_filter.mp hz).1, hz2⟩, rfl⟩
    · rw [if_neg c2] at h
      have e2 : p.2 = t := by omega
      have hmo : Mo vs p.1 := by
        refine Classical.byContradiction fun z => ?_
        have e1 : p.1 = t := h3.resolve_right z
        have e3 : usedIn vs p.1 p.2 = 0 := by
          unfold usedIn
          rw [show (vs.filter fun q => decide (p.1 ≤ q.1) && decide (q.1 ≤ p.2)) = [] from List.filter_eq_nil_iff.mpr fun q hq y => z ⟨q, hq, by have := and_dec y; omega⟩]
          rfl
        have e4 : b.room p.1 p.2 = some b.sz := by
          rw [e1, e2]
          cases b with
          | jar s f => show some (s + f * (t - t)) = some s; rw [Int.sub_self, Int.mul_zero, Int.add_zero]
          | win m s => exact if_pos (by have := ok.2.1; show t - t < s; omega)
        rw [e4] at hr
        cases hr
        omega
      refine .inr ⟨hmo, h1, ?_⟩
      rw [← e2]
      exact h
/-- the least good moment is the moment itself, or one of those at which a visit can begin to fit -/
theorem cand_least {bs : List Bd} {vs : Vs} {c t m : Int} (hs : Srt vs) (hp : ∀ q ∈ vs, 0 ≤ q.2) (hb : ∀ b ∈ bs, b.ok ∧ brokenAll b vs = []) (h : LeastG bs vs c t (some m)) : m ∈ cands bs vs t c := by
  unfold cands
  by_cases e : m = t
  · exact List.mem_append_left _ (List.mem_singleton.mpr e)
  · have htm : t < m := by have := h.1; omega
    refine List.mem_append_right _ ?_
    obtain ⟨b, hbm, p, hbad, hbe, hc⟩ := least_behind hs hp hb h htm
    obtain ⟨ok, keep⟩ := hb b hbm
    rcases behind_third ok hp hc hbad hbe with ⟨x, hx, rfl⟩ | ⟨hx, hle, hfl⟩
    · obtain ⟨i, hi, rfl⟩ := hx.at
      exact mem_candT hi (.inl rfl)
    · obtain ⟨k, e, hke, he, ek, _, _, hu, _⟩ := used_upto hs hx hle
      refine mem_candT (k := k) (by omega) (.inr (mem_candE hbm hke he ?_))
      rw [hu, ek]
      cases b with
      | win w s => cases hfl; exact List.mem_singleton.mpr rfl
      | jar s f =>
        have h' : (if f = 0 then none else some (p.1 + (c + usedIn vs p.1 (m - 1) - s + f - 1) / f)) = some m := hfl
        have hf := ok.2.1
        by_cases z : f = 0
        · rw [if_pos z] at h'; cases h'
        · rw [if_neg z] at h'
          show m ∈ (if 0 < f then [p.1 + (c + usedIn vs p.1 (m - 1) - s + f - 1) / f] else [])
          rw [if_pos (by omega)]
          exact List.mem_singleton.mpr (Option.some.inj h').symm
def smallB : Bd → Prop
  | .jar _ _ => True
  | .win _ s => s ≤ 40
/-- with small bounds, and a cost below ten, the least good moment is near -/
theorem least_near {bs : List Bd} {vs : Vs} {c t m M : Int} (hs : Srt vs) (hp : ∀ q ∈ vs, 0 ≤ q.2) (hb : ∀ b ∈ bs, b.ok ∧ brokenAll b vs = []) (hsm : ∀ b ∈ bs, smallB b) (hc1 : 1 ≤ c) (hc9 : c ≤ 9) (hM : ∀ q ∈ vs, q.1 ≤ M) (htM : t ≤ M) (h : LeastG bs vs c t (some m)) : m < M + 45 := by
  have mo : ∀ {x : Int}, Mo vs x → x ≤ M := fun ⟨q, hq, e⟩ => by have := hM q hq; omega
  by_cases e : m = t
  · omega
  · have htm : t < m := by have := h.1; omega
    obtain ⟨b, hbm, p, hbad, hbe, hc⟩ := least_behind hs hp hb h htm
    obtain ⟨ok, keep⟩ := hb b hbm
    rcases behind_third ok hp hc hbad hbe with ⟨x, hx, rfl⟩ | ⟨hx, hle, hfl⟩
    · have := mo hx; omega
    · obtain ⟨k, e, hke, he, ek, hxe, hey, hu, hue⟩ := used_upto hs hx hle
      have hpM := mo hx
      have heM : (vAt vs e).1 ≤ M := mo ⟨_, vAt_mem he, rfl⟩
      cases b with
      | win w s =>
        cases hfl
        have : s ≤ 40 := hsm _ hbm
        omega
      | jar s f =>
        have h' : (if f = 0 then none else some (p.1 + (c + usedIn vs p.1 (m - 1) - s + f - 1) / f)) = some m := hfl
        have hf := ok.2.1
        by_cases z : f = 0
        · rw [if_pos z] at h'; cases h'
        · rw [if_neg z] at h'
          have h2 := Option.some.inj h'
          have hk : ¬ s + f * ((vAt vs e).1 - p.1) < usedIn vs p.1 (vAt vs e).1 := fun q => by
            have := broken_found hs hx ⟨_, vAt_mem he, rfl⟩ hxe (show (Bd.jar s f).room p.1 (vAt vs e).1 = some _ from rfl) q
            rw [keep] at this
            cases this
          rw [hue] at hk
          have h3 : (c + usedIn vs p.1 (m - 1) - s + f - 1) / f ≤ (vAt vs e).1 - p.1 + c := by
            refine Int.le_of_lt_add_one (Int.ediv_lt_of_lt_mul (by omega) ?_)
            have h5 : ((vAt vs e).1 - p.1 + c + 1) * f = f * ((vAt vs e).1 - p.1) + c * f + f := by
              rw [Int.add_mul, Int.add_mul, Int.one_mul, Int.mul_comm ((vAt vs e).1 - p.1) f]
            have h6 : c * 1 ≤ c * f := Int.mul_le_mul_of_nonneg_left (by omega) (by omega)
            omega
          omega
theorem brokenF_none {b : Bd} {vs : Vs} : brokenF b vs = none ↔ brokenAll b vs = [] := by
  unfold brokenF
  exact List.head?_eq_none_iff
theorem brkGo_nil {vs : Vs} : ∀ {bs : List Bd} {k : Nat}, brkGo vs k bs = none → ∀ b ∈ bs, brokenF b vs = none
  | b :: r, k, h, c, hc => by
    have h' : (match brokenF b vs with | some p => some (k, p) | none => brkGo vs (k + 1) r) = none := h
    cases e : brokenF b vs with
    | some p => rw [e] at h'; cases h'
    | none =>
      rw [e] at h'
      rcases List.mem_cons.mp hc with rfl | hc
      · exact e
      · exact brkGo_nil h' c hc
theorem good_brk {bs : List Bd} {vs : Vs} {c t : Int} : Good bs vs c t ↔ brkOf bs (withV vs t c) = none :=
  ⟨fun h => brkOf_none fun b hb => brokenF_none.mpr (h b hb), fun h b hb => brokenF_none.mp (brkGo_nil h b hb)⟩
def KeepB (bs : List Bd) (vs : Vs) : Prop := ∀ b ∈ bs, brokenAll b vs = []
/-- the first good one of rising moments that hold the least -/
theorem first_least {bs : List Bd} {vs : Vs} {c t x : Int} {ms : List Int} {j : Nat} {r : Option Int} (hms : ms.Pairwise (· < ·)) (hlo : ∀ i ∈ ms, t ≤ i) (hhi : ∀ m, r = some m → m ∈ ms) (hr : LeastG bs vs c t r) (hx : ms[j]? = some x)
    (hp : ∀ (i : Nat) (y : Int), i < j → ms[i]? = some y → ¬ Good bs vs c y) (g : Good bs vs c x) : r = some x := by
  cases r with
  | none => exact absurd g (hr x (hlo x (List.mem_of_getElem? hx)))
  | some m =>
    obtain ⟨h1, h2, h3⟩ := hr
    have a : ¬ x < m := fun z => h3 x (hlo x (List.mem_of_getElem? hx)) z g
    by_cases z : m = x
    · rw [z]
    · exfalso
      obtain ⟨i, hi⟩ := List.getElem?_of_mem (hhi m rfl)
      by_cases q : i < j
      · exact hp i m q hi h2
      · obtain ⟨hj1, hj2⟩ := List.getElem?_eq_some_iff.mp hx
        obtain ⟨hi1, hi2⟩ := List.getElem?_eq_some_iff.mp hi
        by_cases y : i = j
        · subst y; rw [hj2] at hi2; omega
        · have := List.pairwise_iff_getElem.mp hms j i hj1 hi1 (by omega)
          omega
theorem none_least {bs : List Bd} {vs : Vs} {c t : Int} {ms : List Int} {r : Option Int} (hhi : ∀ m, r = some m → m ∈ ms) (hr : LeastG bs vs c t r) (hp : ∀ (i : Nat) (y : Int), i < ms.length → ms[i]? = some y → ¬ Good bs vs c y) : r = none := by
  cases r with
  | none => rfl
  | some m =>
    obtain ⟨i, hi⟩ := List.getElem?_of_mem (hhi m rfl)
    exact absurd hr.2.1 (hp i m (List.getElem?_eq_some_iff.mp hi).1 hi)
/-- there is a least moment or none, and the program's tries come to it -/
theorem ear_all {bs : List Bd} {vs : Vs} {c : Int} (hv : VsOk vs) (hc0 : 0 ≤ c) (hb : ∀ b ∈ bs, b.ok ∧ brokenAll b vs = []) (t : Int) : ∃ n r, EarN bs vs c n t r ∧ LeastG bs vs c t r := by
  have hT : ∀ x y, usedIn vs x y ≤ (vs.map (·.2)).sum := fun x y => by
    unfold usedIn
    have hp := hv.pos
    clear hv hb
    induction vs with
    | nil => exact Int.le_refl _
    | cons v r ih =>
      have ih := ih fun q hq => hp q (List.mem_cons_of_mem _ hq)
      have h0 := hp v List.mem_cons_self
      rw [List.filter_cons, List.map_cons, List.sum_cons]
      split
      · rw [List.map_cons, List.sum_cons]; omega
      · omega
  obtain ⟨n, r, h⟩ := earN_ex (c := c) (M := 1000000000000) hv.1 hv.pos hc0 hb (fun q hq => (hv.2 q hq).1.2) hT (1000000000000 + 1000000000001 + (vs.map (·.2)).sum + c - t + 1).toNat t (by omega)
  exact ⟨n, r, h, earN_least hv.1 hv.pos hb h⟩
theorem dropV_tl {vs : Vs} {p : Int × Int} {r : Vs} (h : vs = p :: r) : dropV vs p = r := by
  subst h
  unfold dropV
  simp
theorem BadS.sub {b : Bd} {vs : Vs} {p : Int × Int} (hs : Srt (p :: vs)) (hp : 0 ≤ p.2) (keep : brokenAll b (p :: vs) = []) : brokenAll b vs = [] := by
  refine List.eq_nil_iff_forall_not_mem.mpr fun q hq => ?_
  have hs2 : Srt vs := (List.pairwise_cons.mp hs).2
  obtain ⟨a, e, hae, he, hf, rfl, hb⟩ := brokenAll_elim hq
  unfold brk at hb
  rw [Bool.and_eq_true] at hb
  obtain ⟨hl, ho⟩ := hb
  unfold over at ho
  have hu := used_between hs2 hae he hf hl
  cases hr : b.room (vAt vs a).1 (vAt vs e).1 with
  | none => rw [hr] at ho; cases ho
  | some r =>
    rw [hr] at ho
    have ho2 : r < usedAE vs a e := of_decide_eq_true ho
    rw [hu] at ho2
    have := broken_found hs ⟨_, List.mem_cons_of_mem _ (vAt_mem (show a < vs.length by omega)), rfl⟩ ⟨_, List.mem_cons_of_mem _ (vAt_mem he), rfl⟩ (SrtE.le hs2 hae he) hr (by
      have e2 : usedIn (p :: vs) (vAt vs a).1 (vAt vs e).1 = usedIn [p] (vAt vs a).1 (vAt vs e).1 + usedIn vs (vAt vs a).1 (vAt vs e).1 := usedIn_append [p] vs _ _
      have e3 : 0 ≤ usedIn [p] (vAt vs a).1 (vAt vs e).1 := usedIn_nonneg (fun q hq => by cases List.mem_singleton.mp hq; exact hp) _ _
      omega)
    rw [keep] at this
    cases this
def m_wide (c : Int) : Bd → Bd
  | .win m _ => .win m (1 + c % ([50, 1000000, 1000000000000] : List Int).getD (c % 3).toNat 0)
  | .jar s _ => .jar s (([0, 1, 1 + c % 1000] : List Int).getD (c % 3).toNat 0)
theorem wide_ok {c : Int} {b : Bd} (h : 0 ≤ c) (ok : b.ok) : (m_wide c b).ok := by
  cases b with
  | jar s f =>
    refine ⟨ok.1, ?_⟩
    exact getD_all (P := fun x => 0 ≤ x ∧ x ≤ 1000000000) (by intro x hx; simp only [List.mem_cons, List.not_mem_nil, or_false] at hx; rcases hx with rfl | rfl | rfl <;> omega) (by simp; omega)
  | win m s =>
    refine ⟨ok.1, ?_⟩
    have q : 50 ≤ ([50, 1000000, 1000000000000] : List Int).getD (c % 3).toNat 0 ∧ ([50, 1000000, 1000000000000] : List Int).getD (c % 3).toNat 0 ≤ 1000000000000 := getD_all (P := fun x => 50 ≤ x ∧ x ≤ 1000000000000) (by decide) (by simp; omega)
    have e1 := Int.emod_nonneg c (show ([50, 1000000, 1000000000000] : List Int).getD (c % 3).toNat 0 ≠ 0 by omega)
    have e2 := Int.emod_lt_of_pos c (show 0 < ([50, 1000000, 1000000000000] : List Int).getD (c % 3).toNat 0 by omega)
    omega
theorem wide_sz (c : Int) (b : Bd) : (m_wide c b).sz = b.sz := by cases b <;> rfl
theorem bound_small {c z : Int} (h : 0 ≤ c) : smallB (m_law_bound c z) := by
  unfold m_law_bound
  split
  · trivial
  · have q : 6 ≤ ([6, 40] : List Int).getD (c / 3200 % 2).toNat 0 ∧ ([6, 40] : List Int).getD (c / 3200 % 2).toNat 0 ≤ 40 := getD_all (P := fun x => 6 ≤ x ∧ x ≤ 40) (by decide) (by simp; omega)
    have e2 := Int.emod_lt_of_pos (c / 80) (show 0 < ([6, 40] : List Int).getD (c / 3200 % 2).toNat 0 by omega)
    show 1 + c / 80 % ([6, 40] : List Int).getD (c / 3200 % 2).toNat 0 ≤ 40
    omega
theorem mulS_small {q : Int} {b : Bd} (h : smallB b) : smallB (b.mulS q) := by cases b <;> exact h
section
def S__law_begins (A : Ad) : DSp := fun ds μ kd _ => ∃ (bs : List Bd) (vs : Vs) (t c : Int), ds = [.lst (bs.map Bd.tv), .lst (vs.map encV.dv), .int t, .int c] ∧ (∀ b ∈ bs, b.ok) ∧ bs.length ≤ 4 ∧ vs.length ≤ 10 ∧
  ∀ ms : List Int, ms.Pairwise (· < ·) → (∀ i, i ∈ ms ↔ i ∈ cands bs vs t c ∧ t ≤ i) → kd (.lst (ms.map Dv.int)) μ
def S__law_earliest (A : Ad) : DSp := fun ds μ kd _ => ∃ (bs : List Bd) (vs : Vs) (t c : Int) (r : Option Int), ds = [.lst (bs.map Bd.tv), .lst (vs.map encV.dv), .int t, .int c] ∧ (∀ b ∈ bs, b.ok ∧ brokenAll b vs = []) ∧ bs.length ≤ 4 ∧ vs.length ≤ 10 ∧ VsOk vs ∧ 0 ≤ c ∧ LeastG bs vs c t r ∧ kd (opI r) μ
def S__law_one_by_one (A : Ad) : DSp := fun ds μ kd _ => ∃ (bs : List Bd) (vs : Vs) (t c : Int) (r : Option Int), ds = [.lst (bs.map Bd.tv), .lst (vs.map encV.dv), .int t, .int c] ∧ (∀ b ∈ bs, b.ok ∧ brokenAll b vs = []) ∧ bs.length ≤ 4 ∧ vs.length ≤ 10 ∧ VsOk vs ∧ (1 ≤ c ∧ c ≤ 9) ∧ (∀ b ∈ bs, smallB b) ∧ (0 ≤ t ∧ t ≤ 1000000000000) ∧ LeastG bs vs c t r ∧ kd (opI r) μ
def S__law_asked (A : Ad) : DSp := fun ds μ kd _ => ∃ (bk : Addr) (xs : List Dv) (bs : List Bd) (vs : Vs) (t c : Int), ds = [.obj bk, .lst (bs.map Bd.tv), .lst (vs.map encV.dv), .int t, .int c] ∧ BookOk A μ bk xs bs vs ∧ KeepB bs vs ∧ vs.length ≤ 10 ∧ VsOk vs ∧ (1 ≤ c ∧ c ≤ 1000000000) ∧ (0 ≤ t ∧ t ≤ 1000000000000) ∧
  ∀ μ', ExtM μ μ' → kd (.bl true) μ'
def S__law_put (A : Ad) : DSp := fun ds μ kd _ => ∃ (bk : Addr) (xs : List Dv) (bs : List Bd) (vs : Vs) (t c : Int), ds = [.obj bk, .int t, .int c] ∧ BookOk A μ bk xs bs vs ∧ vs.length < 40 ∧ (1 ≤ c ∧ c ≤ 1000000000) ∧ (0 ≤ t ∧ t ≤ 1000000000000) ∧
  ∀ r μ', (r = true → brkOf bs (withV vs t c) = none ∧ BookOk A μ' bk xs bs (withV vs t c)) → (r = false → BookOk A μ' bk xs bs vs) → kd (.bl r) μ'
def S__law_wide (A : Ad) : DSp := fun ds μ kd _ => ∃ (b : Bd) (c : Int), ds = [b.tv, .int c] ∧ 0 ≤ c ∧ kd (m_wide c b).tv μ
def S__law_changed (A : Ad) : DSp := fun ds μ kd _ => ∃ (bk : Addr) (xs : List Dv) (bs : List Bd) (vs : Vs) (c z : Int), ds = [.obj bk, .lst (bs.map Bd.tv), .lst (vs.map encV.dv), .int c, .int z] ∧ BookOk A μ bk xs bs vs ∧ KeepB bs vs ∧ VsOk vs ∧ 0 < bs.length ∧ 0 ≤ c ∧ (0 ≤ z ∧ z ≤ 40000000) ∧
  ∀ xs' bs' μ', BookOk A μ' bk xs' bs' vs → KeepB bs' vs → bs'.length = bs.length → (z = 0 → (∀ b ∈ bs, smallB b) → ∀ b ∈ bs', smallB b) → kd (.lst (bs'.map Bd.tv)) μ'
def S__law_ends (A : Ad) : DSp := fun ds μ kd _ => ∃ t : Int, ds = [.int t] ∧ (0 ≤ t ∧ t ≤ 999999999990) ∧ ∀ μ', kd (.bl true) μ'
end
theorem app_int {μ : M} {fa : Addr} {X : List Int} {y : Int} : updM (updM μ fa (.lst (X.map Dv.int))) fa (.lst (X.map Dv.int ++ [.int y])) = updM μ fa (.lst ((X ++ [y]).map Dv.int)) := by
  rw [updM_updM, List.map_append]; rfl
theorem seq_least {bs : List Bd} {vs : Vs} {c t : Int} {r : Option Int} {j : Nat} (hr : LeastG bs vs c t r) (hp : ∀ i : Nat, i < j → ¬ Good bs vs c (t + (i : Int))) (g : Good bs vs c (t + (j : Int))) : r = some (t + (j : Int)) := by
  cases r with
  | none => exact absurd g (hr _ (by omega))
  | some m =>
    obtain ⟨h1, h2, h3⟩ := hr
    have a : ¬ t + (j : Int) < m := fun z => h3 _ (by omega) z g
    by_cases z : m = t + (j : Int)
    · rw [z]
    · refine absurd h2 ?_
      have e : m = t + ((m - t).toNat : Int) := by omega
      rw [e]
      exact hp (m - t).toNat (by omega)
theorem seq_none {bs : List Bd} {vs : Vs} {c t : Int} {r : Option Int} {n : Nat} (hr : LeastG bs vs c t r) (hp : ∀ i : Nat, i < n → ¬ Good bs vs c (t + (i : Int))) (hn : ∀ m, r = some m → m < t + (n : Int)) : r = none := by
  cases r with
  | none => rfl
  | some m =>
    obtain ⟨h1, h2, h3⟩ := hr
    have := hn m rfl
    refine absurd h2 ?_
    have e : m = t + ((m - t).toNat : Int) := by omega
    rw [e]
    exact hp (m - t).toNat (by omega)
theorem change_mem {bs : List Bd} {k : Nat} {x b : Bd} (h : b ∈ bs.take k ++ [x] ++ bs.drop (k + 1)) : b = x ∨ b ∈ bs := by
  rcases List.mem_append.mp h with h | h
  · rcases List.mem_append.mp h with h | h
    · exact .inr (List.mem_of_mem_take h)
    · exact .inl (List.mem_singleton.mp h)
  · exact .inr (List.mem_of_mem_drop h)
theorem change_len {bs : List Bd} {k : Nat} {x : Bd} (h : k < bs.length) : (bs.take k ++ [x] ++ bs.drop (k + 1)).length = bs.length := by
  rw [List.length_append, List.length_append, List.length_take, List.length_drop]
  simp only [List.length_cons, List.length_nil]
  omega
theorem fm_tvG (g : Nat → Bd) (n : Nat) : (List.range n).filterMap (fun i => some (g i).tv) = ((List.range n).map g).map Bd.tv := by
  rw [fm_some (fun i => (g i).tv), List.map_map]; rfl
theorem bds_small {ns : List Int} {o z : Int} (n : Nat) : ∀ b ∈ bds ns o z n, smallB b := fun b hb => by
  unfold bds at hb
  obtain ⟨i, _, rfl⟩ := List.mem_map.mp hb
  exact bound_small (cell_lo _ _)
/-! a full book, one without bounds -/
theorem with_rep (t c : Int) (j : Nat) : withV (List.replicate j (t, c)) t c = List.replicate (j + 1) (t, c) := by
  unfold withV
  rw [List.filter_replicate, if_pos (by simp), List.length_replicate, List.take_of_length_le (by simp), List.drop_of_length_le (by simp), List.append_nil, List.replicate_succ']
theorem rep_srt (t c : Int) (j : Nat) : Srt (List.replicate j (t, c)) := by
  unfold Srt
  rw [List.pairwise_iff_getElem]
  intro i k hi hk hik
  simp
theorem rep_used {t x y : Int} {j : Nat} (h1 : x ≤ t) (h2 : t ≤ y) : usedIn (List.replicate j (t, (1 : Int))) x y = (j : Int) := by
  induction j with
  | zero => rfl
  | succ j ih =>
    rw [List.replicate_succ']
    rw [usedIn_append, ih, usedIn_one, if_pos ⟨h1, h2⟩]
    omega
theorem rep_used_le (t x y : Int) (j : Nat) : usedIn (List.replicate j (t, (1 : Int))) x y ≤ (j : Int) := by
  induction j with
  | zero => exact Int.le_refl _
  | succ j ih =>
    rw [List.replicate_succ']
    rw [usedIn_append, usedIn_one]
    split <;> omega
theorem rep_keep {t : Int} {j : Nat} (h : j ≤ 40) : brokenAll (.jar 40 1) (List.replicate j (t, (1 : Int))) = [] := by
  refine List.eq_nil_iff_forall_not_mem.mpr fun q hq => ?_
  obtain ⟨a, e, hae, he, hf, rfl, hb⟩ := brokenAll_elim hq
  unfold brk at hb
  rw [Bool.and_eq_true] at hb
  obtain ⟨hl, ho⟩ := hb
  unfold over at ho
  have ho2 : 40 + 1 * ((vAt (List.replicate j (t, (1 : Int))) e).1 - (vAt (List.replicate j (t, (1 : Int))) a).1) < usedAE (List.replicate j (t, (1 : Int))) a e := of_decide_eq_true ho
  rw [used_between (rep_srt t 1 j) hae he hf hl] at ho2
  have h1 := rep_used_le t (vAt (List.replicate j (t, (1 : Int))) a).1 (vAt (List.replicate j (t, (1 : Int))) e).1 j
  have h2 := SrtE.le (rep_srt t 1 j) hae he
  omega
theorem rep_vsok {t : Int} (h0 : 0 ≤ t) (h1 : t ≤ 1000000000000) (j : Nat) : VsOk (List.replicate j (t, (1 : Int))) := ⟨rep_srt t 1 j, fun p hp => by
  have e := List.eq_of_mem_replicate hp
  subst e
  exact ⟨⟨h0, h1⟩, by show (1 : Int) ≤ 1; omega, by show (1 : Int) ≤ 1000000000; omega⟩⟩
theorem rep_mo {t x : Int} {j : Nat} (h : Mo (List.replicate j (t, (1 : Int))) x) : x = t := by
  obtain ⟨q, hq, rfl⟩ := h
  rw [List.eq_of_mem_replicate hq]
/-- a jar of forty that is full lets three by three moments later -/
theorem full_least (t : Int) : LeastG [.jar 40 1] (List.replicate 40 (t, (1 : Int))) 3 t (some (t + 3)) := by
  have mo : Mo (List.replicate 40 (t, (1 : Int))) t := ⟨(t, 1), by simp, rfl⟩
  refine ⟨by omega, fun b hb => ?_, fun t' a1 a2 => bad_not (rep_srt t 1 40) (List.mem_singleton.mpr rfl) ⟨t, t', a1, Int.le_refl _, .inr mo, .inl rfl, 40 + 1 * (t' - t), rfl, ?_⟩⟩
  · cases List.mem_singleton.mp hb
    refine List.eq_nil_iff_forall_not_mem.mpr fun q hq => ?_
    obtain ⟨h1, h2, h3, h4, r, hr, hlt⟩ := broken_bad (rep_srt t 1 40) (rep_keep (Nat.le_refl 40)) hq
    cases hr
    have hu := rep_used_le t q.1 q.2 40
    have e2 : q.2 = t + 3 := h4.elim id fun z => by have := rep_mo z; omega
    rcases h3 with e1 | z
    · have : usedIn (List.replicate 40 (t, (1 : Int))) q.1 q.2 = 0 := by
        unfold usedIn
        rw [List.filter_eq_nil_iff.mpr fun p hp y => by have := List.eq_of_mem_replicate hp; subst this; have := and_dec y; omega]
        rfl
      omega
    · have := rep_mo z; omega
  · rw [rep_used (Int.le_refl t) a1]
    omega
theorem BookOk.other {A : Ad} {μ : M} {b p : Addr} {xs ys : List Dv} {bs : List Bd} {vs ws : Vs} {o : MO} (B : BookOk A μ b xs bs vs) (hne : b ≠ p) (hp : μ p = some (.ins A.CBO (bkF ys ws))) : BookOk A (updM μ p o) b xs bs vs :=
  { B with at_ := (updM_ne hne).trans B.at_, bds := B.bds.mono fun _ _ h => h.upd hp }
section
variable {K : Kf} {μ : M} {k : DK}
theorem d_neOO (r : Option Int) (h : k (.bl false) μ) : DOp K (rNeA K) (opI r) (opI r) μ k := by
  cases r with
  | none => exact d_neSc .non .non rfl (by simpa using h)
  | some m => exact d_neI (by simpa using h)
end

local macro_rules | `(tactic| walk_at "cm") => `(tactic| first | exact Or.inr ⟨by decide, by decide⟩ | exact Or.inl ⟨by decide, by decide⟩ | exact Or.inl ⟨by omega, by omega⟩ | exact Or.inr ⟨by omega, by omega⟩)
local macro_rules | `(tactic| walk_at "cd") => `(tactic| first | exact ⟨by decide, by decide⟩ | exact ⟨by omega, by omega⟩)
local macro_rules | `(tactic| walk_at "lens") => `(tactic| first | decide | assumption | (rw [List.length_map]; assumption) | (simp only [List.length_cons, List.length_nil, List.length_append, List.length_map, sizeLine_eq]; omega))
local macro_rules | `(tactic| walk_at "ix") => `(tactic| first | omega | (simp only [List.length_cons, List.length_nil, List.length_map]; omega))
local macro_rules | `(tactic| walk_at "le") => `(tactic| repeat (first | exact LeE.nil | refine LeE.same ?_ | refine LeE.drop ?_))
local macro_rules | `(tactic| walk_at "fl") => `(tactic| first | decide | exact putD_lt1 | exact putD_lt2 | exact putD_lt3 | exact putD_ltF (m := 4) rfl (by decide) | exact putD_ltF (m := 3) rfl (by decide) | exact len_ltE (m := 4) rfl (by decide) | exact len_ltE (m := 3) rfl (by decide) | exact len_ltE (m := 2) rfl (by decide))
local macro_rules | `(tactic| walk_at "sq") => `(tactic| first | assumption | exact .lst _ | exact .fro _ | exact .obj (by first | assumption | exact updM_same))
def top (i : Nat) : Stmt := PySem.Challenge.pw_turnstile_k10_whole_earliest.main.body.getD i (.Pass ⟨0, 0, 0, 0⟩)
abbrev s_Broken_init : Stmt := inClass (top 9) 0
abbrev s_need_number : Stmt := top 14
abbrev s_Jar_init : Stmt := inClass (top 16) 0
abbrev s_Jar_room : Stmt := inClass (top 16) 1
abbrev s_Window_init : Stmt := inClass (top 17) 0
abbrev s_Window_room : Stmt := inClass (top 17) 1
abbrev s_need_bounds : Stmt := top 18
abbrev s_is_whole : Stmt := top 22
abbrev s_need_moment : Stmt := top 23
abbrev s_need_cost : Stmt := top 24
abbrev s_broken_all : Stmt := top 26
abbrev s_broken : Stmt := top 27
abbrev s_with_visit : Stmt := top 31
abbrev s_need_kept : Stmt := top 32
abbrev s_filled_at : Stmt := top 33
abbrev s_behind : Stmt := top 34
abbrev s_Book_init : Stmt := inClass (top 35) 0
abbrev s_Book_visits : Stmt := inClass (top 35) 1
abbrev s_Book_put : Stmt := inClass (top 35) 2
abbrev s_Book_drop : Stmt := inClass (top 35) 3
abbrev s_Book_change : Stmt := inClass (top 35) 4
abbrev s_Book_next_try : Stmt := inClass (top 35) 5
abbrev s_Book_earliest : Stmt := inClass (top 35) 6
abbrev s__law_cell : Stmt := top 37
abbrev s__law_bound : Stmt := top 38
abbrev s__law_made : Stmt := top 39
abbrev s__law_room : Stmt := top 40
abbrev s__law_first : Stmt := top 41
abbrev s__law_breaks : Stmt := top 42
abbrev s__law_with : Stmt := top 43
abbrev s__law_cost : Stmt := top 45
abbrev s__law_scale : Stmt := top 46
abbrev s__law_begins : Stmt := top 47
abbrev s__law_earliest : Stmt := top 48
abbrev s__law_one_by_one : Stmt := top 49
abbrev s__law_asked : Stmt := top 50
abbrev s__law_put : Stmt := top 51
abbrev s__law_wide : Stmt := top 52
abbrev s__law_changed : Stmt := top 53
abbrev s__law_ends : Stmt := top 54
abbrev s_law : Stmt := top 55
section
variable {Pg : Program} {w : World} {K : Kf} {mg : Str → Option Value} {base : Heap} {A : Ad}
theorem sc_Broken_init : FnScope ["self", "k", "stretch"] ["self", "k", "stretch"] (defScope s_Broken_init) := ⟨rfl, rfl, rfl, by decide +kernel, rfl, by decide +kernel, by decide +kernel⟩
theorem ok_Broken_init {f : Addr} {fd : FuncData} (F : Fun K "__init__" "Broken.__init__" s_Broken_init f fd) (T : Txt K mg A) : FnOk Pg w K mg base (L2.CX Pg w) 1 f fd ["self", "k", "stretch"] (sp2 "k" "stretch" A.CBK) := by
  refine F.okX sc_Broken_init (fun vs H Q E h => ?_) (fun cdv A_ outer s H vs Q E hr h => ?_)
  · obtain ⟨a, v, w, rfl, _⟩ := h; rfl
  · obtain ⟨a, v, w, rfl, ha, hk⟩ := h
    exact ⟨_, pss_cons (ps_expr (pe_geinit T.gei rfl (pa_cons (pv 0) (pa_cons pe_str pa_nil)))) (pss_cons (ps_ost (pv 0) (pv 1)) (pss_one (ps_ost (pv 0) (pv 2)))), ⟨.ref a, rfl, a, A.CBK, [.str _], rfl, by decide, T.oc_Broken, ha, ⟨v, rfl, .ref a, rfl, a, A.CBK, rfl, T.oc_Broken, T.na_Broken_k, .inl ⟨ha, fun dx hdx ne => ⟨w, rfl, .ref a, rfl, a, A.CBK, rfl, T.oc_Broken, T.na_Broken_stretch, .inr ⟨dx, _, upd_same, (upd_ne ne).trans upd_same, (show 1 ≤ 900 by decide), hk dx hdx ne⟩⟩⟩⟩⟩⟩
theorem sc_need_number : FnScope ["thing", "least", "most"] ["thing", "least", "most"] (defScope s_need_number) := ⟨rfl, rfl, rfl, by decide +kernel, rfl, by decide +kernel, by decide +kernel⟩
theorem ok_need_number {f : Addr} {fd : FuncData} (F : Fun K "need_number" "need_number" s_need_number f fd) (T : Txt K mg A) : FnOk Pg w K mg base (L2.CX Pg w) 1 f fd ["thing", "least", "most"] (toSp K (S_need_number A)) := by
  refine fn_data F sc_need_number (fun ds μ kd ke h => ?_) (fun cdv A_ outer s H E c ow ds μ kd ke h => ?_)
  · obtain ⟨thing, least, most, rfl, hl, hm, hk⟩ := h; rfl
  · obtain ⟨thing, least, most, rfl, hl, hm, hk⟩ := h
    refine jb_cons (js_if ?_)
    refine jt_w (jw_or (jt_not (jt_val ?_)))
    refine je_cB call_isiA T.m_isinstance PyProof.Rows.boot_isinstance ?_
    refine ja_cons (je_name 0 rfl rfl (ja_cons (je_bty T.m_int PyProof.Rows.boot_int (ja_nil ?_))))
    refine d_isi (.int _) (.ty _) (kit_ty (r := true) (by decide +kernel)) ⟨_, rfl, fun z => (nomatch z), fun _ => ?_⟩
    refine jw_or (jt_val ?_)
    refine je_cB call_isiA T.m_isinstance PyProof.Rows.boot_isinstance ?_
    refine ja_cons (je_name 0 rfl rfl (ja_cons (je_bty T.m_bool PyProof.Rows.boot_bool (ja_nil ?_))))
    refine d_isi (.int _) (.ty _) (kit_ty (r := false) (by decide +kernel)) ⟨_, rfl, fun z => (nomatch z), fun _ => ?_⟩
    refine jw_or (jt_lt (je_name 0 rfl rfl (je_name 1 rfl rfl (d_cmpI ⟨_, rfl, fun z => ?_, fun _ => ?_⟩))))
    · have := of_decide_eq_true z
      omega
    refine jw_or1 (jt_gt (je_name 0 rfl rfl (je_name 2 rfl rfl (d_cmpI ⟨_, rfl, fun z => ?_, fun _ => ?_⟩))))
    · have := of_decide_eq_true z
      omega
    exact jb_nil (jb_nil hk)
theorem sc_Jar_init : FnScope ["self", "size", "flow"] ["self", "size", "flow"] (defScope s_Jar_init) := ⟨rfl, rfl, rfl, by decide +kernel, rfl, by decide +kernel, by decide +kernel⟩
theorem ok_Jar_init {f : Addr} {fd : FuncData} (F : Fun K "__init__" "Jar.__init__" s_Jar_init f fd) (T : Txt K mg A) (F_need_number : DCal Pg w K mg base 1 "need_number" (S_need_number A) []) : FnOk Pg w K mg base (L2.CX Pg w) 2 f fd ["self", "size", "flow"] (toSp K (S_Jar_init A)) := by
  refine fn_data F sc_Jar_init (fun ds μ kd ke h => ?_) (fun cdv A_ outer s H E c ow ds μ kd ke h => ?_)
  · obtain ⟨a_, size, flow, rfl, ha, ⟨⟨o1, o2⟩, o3, o4⟩, hk⟩ := h; rfl
  · obtain ⟨a_, size, flow, rfl, ha, ⟨⟨o1, o2⟩, o3, o4⟩, hk⟩ := h
    refine jb_cons (js_expr ?_)
    refine je_call c F_need_number (by decide) ?_
    refine ja_cons ?_
    refine je_name 1 rfl rfl ?_
    refine ja_cons ?_
    refine je_int ?_
    refine ja_cons ?_
    refine je_glob T.g_MOST_ROOM ?_
    refine ja_nil ?_
    refine ⟨_, _, _, rfl, by omega, by omega, ?_⟩
    refine jb_cons (js_expr ?_)
    refine je_call c F_need_number (by decide) ?_
    refine ja_cons ?_
    refine je_name 2 rfl rfl ?_
    refine ja_cons ?_
    refine je_int ?_
    refine ja_cons ?_
    refine je_glob T.g_MOST_FLOW ?_
    refine ja_nil ?_
    refine ⟨_, _, _, rfl, by omega, by omega, ?_⟩
    refine jb_cons (js_fld ?_)
    refine je_name 1 rfl rfl ?_
    refine je_name 0 rfl rfl ?_
    refine ⟨_, _, _, rfl, ha, T.cl_Jar, T.na_Jar_size, by decide, ?_⟩
    refine jb_cons (js_fld ?_)
    refine je_name 2 rfl rfl ?_
    refine je_name 0 rfl rfl ?_
    refine ⟨_, _, _, rfl, updM_same, T.cl_Jar, T.na_Jar_flow, Nat.lt_of_le_of_lt (length_putD _ _ _) (by decide), ?_⟩
    rw [updM_updM]; exact jb_nil hk
theorem sc_Jar_room : FnScope ["self", "first", "last"] ["self", "first", "last"] (defScope s_Jar_room) := ⟨rfl, rfl, rfl, by decide +kernel, rfl, by decide +kernel, by decide +kernel⟩
theorem ok_Jar_room {f : Addr} {fd : FuncData} (F : Fun K "room" "Jar.room" s_Jar_room f fd) (T : Txt K mg A) : FnOk Pg w K mg base (L2.CX Pg w) 1 f fd ["self", "first", "last"] (toSp K (S_Jar_room A)) := by
  refine fn_data F sc_Jar_room (fun ds μ kd ke h => ?_) (fun cdv A_ outer s H E c ow ds μ kd ke h => ?_)
  · obtain ⟨d, bs, bf, first, last, rfl, hi, ⟨_, o3, o4⟩, hk⟩ := h; rfl
  · obtain ⟨d, bs, bf, first, last, rfl, hi, ⟨_, o3, o4⟩, hk⟩ := h
    refine jb_cons (js_ret ?_)
    refine je_add ?_
    refine je_fld ?_
    refine je_name 0 rfl rfl ?_
    refine ⟨_, _, _, hi, T.cl_Jar, T.na_Jar_size, jarF_size _ _, ?_⟩
    refine je_mul ?_
    refine je_fld ?_
    refine je_name 0 rfl rfl ?_
    refine ⟨_, _, _, hi, T.cl_Jar, T.na_Jar_flow, jarF_flow _ _, ?_⟩
    refine je_sub ?_
    refine je_name 2 rfl rfl ?_
    refine je_name 1 rfl rfl ?_
    refine d_subI ?_
    first | refine d_mulI (by walk_at "cm") ?_ | refine d_mulL1 (by constructor) (by omega) ?_
    first | refine d_addI ?_ | refine d_addL (by constructor) (by constructor) (by walk_at "lens") ?_ | refine d_addS (by walk_at "lens") ?_ | refine d_addT (by walk_at "lens") ?_
    exact hk
theorem sc_Window_init : FnScope ["self", "most", "span"] ["self", "most", "span"] (defScope s_Window_init) := ⟨rfl, rfl, rfl, by decide +kernel, rfl, by decide +kernel, by decide +kernel⟩
theorem ok_Window_init {f : Addr} {fd : FuncData} (F : Fun K "__init__" "Window.__init__" s_Window_init f fd) (T : Txt K mg A) (F_need_number : DCal Pg w K mg base 1 "need_number" (S_need_number A) []) : FnOk Pg w K mg base (L2.CX Pg w) 2 f fd ["self", "most", "span"] (toSp K (S_Window_init A)) := by
  refine fn_data F sc_Window_init (fun ds μ kd ke h => ?_) (fun cdv A_ outer s H E c ow ds μ kd ke h => ?_)
  · obtain ⟨a_, most, span, rfl, ha, ⟨⟨o1, o2⟩, o3, o4⟩, hk⟩ := h; rfl
  · obtain ⟨a_, most, span, rfl, ha, ⟨⟨o1, o2⟩, o3, o4⟩, hk⟩ := h
    refine jb_cons (js_expr ?_)
    refine je_call c F_need_number (by decide) ?_
    refine ja_cons ?_
    refine je_name 1 rfl rfl ?_
    refine ja_cons ?_
    refine je_int ?_
    refine ja_cons ?_
    refine je_glob T.g_MOST_ROOM ?_
    refine ja_nil ?_
    refine ⟨_, _, _, rfl, by omega, by omega, ?_⟩
    refine jb_cons (js_expr ?_)
    refine je_call c F_need_number (by decide) ?_
    refine ja_cons ?_
    refine je_name 2 rfl rfl ?_
    refine ja_cons ?_
    refine je_int ?_
    refine ja_cons ?_
    refine je_glob T.g_MOST_SPAN ?_
    refine ja_nil ?_
    refine ⟨_, _, _, rfl, by omega, by omega, ?_⟩
    refine jb_cons (js_fld ?_)
    refine je_name 1 rfl rfl ?_
    refine je_name 0 rfl rfl ?_
    refine ⟨_, _, _, rfl, ha, T.cl_Window, T.na_Window_most, by decide, ?_⟩
    refine jb_cons (js_fld ?_)
    refine je_name 2 rfl rfl ?_
    refine je_name 0 rfl rfl ?_
    refine ⟨_, _, _, rfl, updM_same, T.cl_Window, T.na_Window_span, Nat.lt_of_le_of_lt (length_putD _ _ _) (by decide), ?_⟩
    rw [updM_updM]; exact jb_nil hk
theorem sc_Window_room : FnScope ["self", "first", "last"] ["self", "first", "last"] (defScope s_Window_room) := ⟨rfl, rfl, rfl, by decide +kernel, rfl, by decide +kernel, by decide +kernel⟩
theorem ok_Window_room {f : Addr} {fd : FuncData} (F : Fun K "room" "Window.room" s_Window_room f fd) (T : Txt K mg A) : FnOk Pg w K mg base (L2.CX Pg w) 1 f fd ["self", "first", "last"] (toSp K (S_Window_room A)) := by
  refine fn_data F sc_Window_room (fun ds μ kd ke h => ?_) (fun cdv A_ outer s H E c ow ds μ kd ke h => ?_)
  · obtain ⟨d, bs, bf, first, last, rfl, hi, hk⟩ := h; rfl
  · obtain ⟨d, bs, bf, first, last, rfl, hi, hk⟩ := h
    refine jb_cons (js_if ?_)
    refine jt_lt ?_
    refine je_sub ?_
    refine je_name 2 rfl rfl ?_
    refine je_name 1 rfl rfl ?_
    refine d_subI ?_
    refine je_fld ?_
    refine je_name 0 rfl rfl ?_
    refine ⟨_, _, _, hi, T.cl_Window, T.na_Window_span, winF_span _ _, ?_⟩
    refine d_cmpI ?_
    refine ⟨_, rfl, ?_⟩
    refine ⟨fun h1 => ?_, fun h1 => ?_⟩
    ·
      refine jb_cons (js_ret ?_)
      refine je_fld ?_
      refine je_name 0 rfl rfl ?_
      refine ⟨_, _, _, hi, T.cl_Window, T.na_Window_most, winF_most _ _, ?_⟩
      rw [show (Bd.win bs bf).room first last = some bs from if_pos (of_decide_eq_true h1)] at hk; exact hk
    refine jb_nil ?_
    refine jb_cons (js_ret ?_)
    refine je_non ?_
    rw [show (Bd.win bs bf).room first last = none from if_neg (of_decide_eq_false h1)] at hk; exact hk
theorem sc_need_bounds : FnScope ["bounds", "many", "one"] ["bounds", "many"] (defScope s_need_bounds) := ⟨rfl, rfl, rfl, by decide +kernel, rfl, by decide +kernel, by decide +kernel⟩
theorem ok_need_bounds {f : Addr} {fd : FuncData} (F : Fun K "need_bounds" "need_bounds" s_need_bounds f fd) (T : Txt K mg A) : FnOk Pg w K mg base (L2.CX Pg w) 1 f fd ["bounds", "many"] (toSp K (S_need_bounds A)) := by
  refine fn_data F sc_need_bounds (fun ds μ kd ke h => ?_) (fun cdv A_ outer s H E c ow ds μ kd ke h => ?_)
  · obtain ⟨d_, xs, ys, m, rfl, hd, ha, hz, hk1, hk2⟩ := h; rfl
  · obtain ⟨d_, xs, ys, m, rfl, hd, ha, hz, hk1, hk2⟩ := h
    obtain ⟨ps, e1, e2, e3⟩ := ha.zip
    have hlen := ha.length
    have hpl : ps.length = xs.length := by rw [← e1, List.length_map]
    refine jb_cons (js_if ?_)
    refine jt_w ?_
    apply jw_orP
    ·
      refine jt_not ?_
      refine jt_val ?_
      refine je_cB call_isiA T.m_isinstance PyProof.Rows.boot_isinstance ?_
      refine ja_cons ?_
      refine je_name 0 rfl rfl ?_
      refine ja_cons ?_
      refine je_tup ?_
      refine ja_cons ?_
      refine je_bty T.m_list PyProof.Rows.boot_list ?_
      refine ja_cons ?_
      refine je_bty T.m_tuple PyProof.Rows.boot_tuple ?_
      refine ja_nil ?_
      refine ⟨by walk_at "lens", ?_⟩
      refine ja_nil ?_
      refine d_isLTD hd ?_
      refine ⟨_, rfl, ?_⟩
      exact ⟨rfl, rfl⟩
    ·
      intro h1
      refine jw_or1 ?_
      refine jt_gt ?_
      refine je_cB call_lenA T.m_len PySem.boot_len ?_
      refine ja_cons ?_
      refine je_name 0 rfl rfl ?_
      refine ja_nil ?_
      refine d_lenLTD hd ?_
      refine je_name 1 rfl rfl ?_
      refine d_cmpI ?_
      refine ⟨_, rfl, ?_⟩
      exact ⟨rfl, rfl⟩
    refine ⟨fun h2 => ?_, fun h2 => ?_⟩
    ·
      refine jb_cons (js_raise c T.x_NoBound ?_)
      refine hk2 (by unfold goodBs; rw [decide_eq_false (by have := of_decide_eq_true (show decide (m < (xs.length : Int)) = true by simpa using h2); omega)]; rfl)
    refine jb_nil ?_
    refine jb_cons (js_if ?_)
    refine jt_not ?_
    refine jt_val ?_
    refine je_cB (cr_all c.calm) T.m_all PyProof.Rows.boot_all ?_
    refine ja_cons ?_
    refine je_lcG (x := "one") 2 c.calm c.nd (blkOk_by (N := ["bounds", "many", "one"]) (sc := defScope s_need_bounds) (by decide +kernel)) (fun _ _ _ _ _ => pg_name (i := 2) c.nd rfl (Or.inl rfl)) ?_
    refine ji_LTD hd ?_
    refine je_name 0 rfl rfl ?_
    refine ⟨rfl, rfl, fun s_ hs1 hok1 => ?_⟩
    refine lc_map (fun p : Dv × Option Bd => p.1) ps (fun p => some (.bl p.2.isSome)) (hs1.trans e1.symm) (hok1 _ (ExtM.refl _)) (by omega) (fun j x μ' hx hμ => ?_) ?_
    ·
      intro s1 H1 C1 cl1 fp1
      refine ⟨fun _ s2 H2 C2 cl2 fp2 => ?_, fun z => nomatch z⟩
      have hp2 := e3 x (List.mem_of_getElem? hx)
      refine je_cB call_isiA T.m_isinstance PyProof.Rows.boot_isinstance ?_
      refine ja_cons ?_
      refine je_name 2 rfl rfl ?_
      refine ja_cons ?_
      refine je_tup ?_
      refine ja_cons ?_
      refine je_glob T.g_Jar ?_
      refine ja_cons ?_
      refine je_glob T.g_Window ?_
      refine ja_nil ?_
      refine ⟨by walk_at "lens", ?_⟩
      refine ja_nil ?_
      refine d_isBthD T (hp2.ext hμ) ?_
      exact ⟨rfl, rfl⟩
    rw [fm_bl (fun p : Dv × Option Bd => p.2.isSome)]
    rw [show ps.map (fun p : Dv × Option Bd => p.2.isSome) = ys.map Option.isSome by rw [← e2, List.map_map]; rfl]
    refine ja_nil ?_
    refine d_all (.lst _) ?_
    rw [show (ys.map Option.isSome).all id = ys.all Option.isSome by rw [List.all_map]; rfl]
    refine ⟨_, rfl, ?_⟩
    refine ⟨fun h3 => ?_, fun h3 => ?_⟩
    ·
      refine jb_cons (js_raise c T.x_NoBound ?_)
      exact hk2 (by unfold goodBs; rw [show ys.all Option.isSome = false by simpa using ‹(!ys.all Option.isSome) = true›, Bool.and_false])
    refine jb_nil ?_
    exact jb_nil (hk1 (by unfold goodBs; rw [show ys.all Option.isSome = true by simpa using ‹(!ys.all Option.isSome) = false›, decide_eq_true (by have := of_decide_eq_false (show decide (m < (xs.length : Int)) = false by simpa using h2); omega)]; rfl))
theorem sc_is_whole : FnScope ["thing", "least", "most"] ["thing", "least", "most"] (defScope s_is_whole) := ⟨rfl, rfl, rfl, by decide +kernel, rfl, by decide +kernel, by decide +kernel⟩
theorem ok_is_whole {f : Addr} {fd : FuncData} (F : Fun K "is_whole" "is_whole" s_is_whole f fd) (T : Txt K mg A) : FnOk Pg w K mg base (L2.CX Pg w) 1 f fd ["thing", "least", "most"] (toSp K (S_is_whole A)) := by
  refine fn_data F sc_is_whole (fun ds μ kd ke h => ?_) (fun cdv A_ outer s H E c ow ds μ kd ke h => ?_)
  · obtain ⟨d, v, l, m, rfl, ht, hk⟩ := h; rfl
  · obtain ⟨d, v, l, m, rfl, ht, hk⟩ := h
    rcases v with _ | i
    ·
      refine jb_cons (js_ret ?_)
      refine je_andP (isIntD d) false ?_ ?_ (by rw [Bool.and_false]; exact hk)
      · refine je_cB call_isiA T.m_isinstance PyProof.Rows.boot_isinstance (ja_cons (je_name 0 rfl rfl (ja_cons (je_bty T.m_int PyProof.Rows.boot_int (ja_nil (d_isInt ht ⟨rfl, rfl⟩)))))) 
      intro h1
      have h2 : isBoolD d = true := by
        have := ht.odd
        rw [h1] at this
        simpa using this
      refine je_andP (!isBoolD d) false ?_ (fun z => by rw [h2] at z; cases z) ⟨by rw [Bool.and_false], rfl⟩
      refine je_not ?_
      refine je_cB call_isiA T.m_isinstance PyProof.Rows.boot_isinstance (ja_cons (je_name 0 rfl rfl (ja_cons (je_bty T.m_bool PyProof.Rows.boot_bool (ja_nil (d_isBool ht ⟨_, rfl, rfl, rfl⟩)))))) 
    ·
      obtain rfl := ht.num
      refine jb_cons (js_ret ?_)
      apply je_andP
      ·
        refine je_cB call_isiA T.m_isinstance PyProof.Rows.boot_isinstance ?_
        refine ja_cons ?_
        refine je_name 0 rfl rfl ?_
        refine ja_cons ?_
        refine je_bty T.m_int PyProof.Rows.boot_int ?_
        refine ja_nil ?_
        refine d_isi (.int _) (.ty _) (kit_ty (r := true) (by decide +kernel)) ?_
        exact ⟨rfl, rfl⟩
      ·
        intro h1
        apply je_andP
        ·
          refine je_not ?_
          refine je_cB call_isiA T.m_isinstance PyProof.Rows.boot_isinstance ?_
          refine ja_cons ?_
          refine je_name 0 rfl rfl ?_
          refine ja_cons ?_
          refine je_bty T.m_bool PyProof.Rows.boot_bool ?_
          refine ja_nil ?_
          refine d_isi (.int _) (.ty _) (kit_ty (r := false) (by decide +kernel)) ?_
          refine ⟨_, rfl, ?_⟩
          exact ⟨rfl, rfl⟩
        ·
          intro h2
          refine je_one ?_
          apply je_chainP op_le op_le
          · with_unfolding_all rfl
          ·
            refine je_name 1 rfl rfl ?_
            refine je_name 0 rfl rfl ?_
            refine d_cmpI ?_
            refine ⟨⟨rfl, rfl⟩, fun h3 => ?_⟩
            refine je_name 2 rfl rfl ?_
            refine d_cmpI ?_
            exact ⟨rfl, rfl⟩
          exact ⟨rfl, rfl⟩
        exact ⟨rfl, rfl⟩
      exact hk
theorem sc_need_moment : FnScope ["thing"] ["thing"] (defScope s_need_moment) := ⟨rfl, rfl, rfl, by decide +kernel, rfl, by decide +kernel, by decide +kernel⟩
theorem ok_need_moment {f : Addr} {fd : FuncData} (F : Fun K "need_moment" "need_moment" s_need_moment f fd) (T : Txt K mg A) (F_is_whole : DCal Pg w K mg base 1 "is_whole" (S_is_whole A) []) : FnOk Pg w K mg base (L2.CX Pg w) 2 f fd ["thing"] (toSp K (S_need_moment A)) := by
  refine fn_data F sc_need_moment (fun ds μ kd ke h => ?_) (fun cdv A_ outer s H E c ow ds μ kd ke h => ?_)
  · obtain ⟨d, v, rfl, ht, hk1, hk2⟩ := h; rfl
  · obtain ⟨d, v, rfl, ht, hk1, hk2⟩ := h
    refine jb_cons (js_if ?_)
    refine jt_not ?_
    refine jt_val ?_
    refine je_call c F_is_whole (by decide) ?_
    refine ja_cons ?_
    refine je_name 0 rfl rfl ?_
    refine ja_cons ?_
    refine je_int ?_
    refine ja_cons ?_
    refine je_glob T.g_MOST_MOMENT ?_
    refine ja_nil ?_
    refine ⟨_, _, _, _, rfl, ht, ?_⟩
    refine ⟨_, rfl, ?_⟩
    refine ⟨fun h1 => ?_, fun h1 => ?_⟩
    ·
      refine jb_cons (js_raise c T.x_NoMoment ?_)
      exact hk2 (by simpa using h1)
    refine jb_nil ?_
    exact jb_nil (hk1 (by simpa using h1))
theorem sc_need_cost : FnScope ["thing"] ["thing"] (defScope s_need_cost) := ⟨rfl, rfl, rfl, by decide +kernel, rfl, by decide +kernel, by decide +kernel⟩
theorem ok_need_cost {f : Addr} {fd : FuncData} (F : Fun K "need_cost" "need_cost" s_need_cost f fd) (T : Txt K mg A) (F_is_whole : DCal Pg w K mg base 1 "is_whole" (S_is_whole A) []) : FnOk Pg w K mg base (L2.CX Pg w) 2 f fd ["thing"] (toSp K (S_need_cost A)) := by
  refine fn_data F sc_need_cost (fun ds μ kd ke h => ?_) (fun cdv A_ outer s H E c ow ds μ kd ke h => ?_)
  · obtain ⟨d, v, rfl, ht, hk1, hk2⟩ := h; rfl
  · obtain ⟨d, v, rfl, ht, hk1, hk2⟩ := h
    refine jb_cons (js_if ?_)
    refine jt_not ?_
    refine jt_val ?_
    refine je_call c F_is_whole (by decide) ?_
    refine ja_cons ?_
    refine je_name 0 rfl rfl ?_
    refine ja_cons ?_
    refine je_int ?_
    refine ja_cons ?_
    refine je_glob T.g_MOST_COST ?_
    refine ja_nil ?_
    refine ⟨_, _, _, _, rfl, ht, ?_⟩
    refine ⟨_, rfl, ?_⟩
    refine ⟨fun h1 => ?_, fun h1 => ?_⟩
    ·
      refine jb_cons (js_raise c T.x_NoCost ?_)
      exact hk2 (by simpa using h1)
    refine jb_nil ?_
    exact jb_nil (hk1 (by simpa using h1))
theorem sc_broken_all : FnScope ["bound", "visits", "found", "at", "used", "end", "room"] ["bound", "visits"] (defScope s_broken_all) := ⟨rfl, rfl, rfl, by decide +kernel, rfl, by decide +kernel, by decide +kernel⟩
theorem ok_broken_all {f : Addr} {fd : FuncData} (F : Fun K "broken_all" "broken_all" s_broken_all f fd) (T : Txt K mg A) (M_Jar_room : DMet Pg w K mg base 1 A.CJ "room" (S_Jar_room A) []) (M_Window_room : DMet Pg w K mg base 1 A.CW "room" (S_Window_room A) []) : FnOk Pg w K mg base (L2.CX Pg w) 2 f fd ["bound", "visits"] (toSp K (S_broken_all A)) := by
  refine fn_data F sc_broken_all (fun ds μ kd ke h => ?_) (fun cdv A_ outer s H E c ow ds μ kd ke h => ?_)
  · obtain ⟨b, d, vs, rfl, hb, ok, hz, hk⟩ := h; rfl
  · obtain ⟨b, d, vs, rfl, hb, ok, hz, hk⟩ := h
    refine jb_cons (js_set 2 c rfl ?_)
    refine je_lstM (ja_nil ⟨by walk_at "lens", fun fa hfa => ?_⟩)
    refine jb_cons (js_forT 3 c.calm ow (pg_name (i := 3) c.nd rfl (by first | exact Or.inl rfl | exact Or.inr rfl)) ?_)
    refine ji_range1 T.m_range ?_
    refine ja_cons ?_
    refine je_cB call_lenA T.m_len PySem.boot_len ?_
    refine ja_cons ?_
    refine je_name 1 rfl rfl ?_
    refine ja_nil ?_
    first | refine d_lenM (by walk_at "sq") ?_ | refine d_lenL (by walk_at "sq") ?_ | refine d_lenT ?_ | refine d_lenS (by walk_at "lens") ?_
    refine ja_nil ?_
    refine ⟨_, rfl, by omega, by omega, ?_⟩
    refine ⟨fun j e μ' => e = [some d, some (.lst (vs.map encV.dv)), some (.obj fa), none, none, none, none] ∧ μ' = updM μ fa (.lst ((brokenTo b vs j).map encV.dv)), ?_, fun _ _ _ _ => trivial, fun j x e μ' hx iv => ?_, fun e μ' iv n' hle => ?_⟩
    · refine ⟨_, ?_, rfl, rfl⟩; walk_at "le"
    ·
      obtain ⟨rfl, rfl⟩ := iv
      obtain ⟨rfl, hj⟩ := rng_item0 hx
      have hj : j < vs.length := by omega
      refine jb_cons (js_if ?_)
      refine jt_to (!isFst vs j) ?_ ?_
      ·
        refine jt_w ?_
        refine jw_and ?_
        refine jt_gt ?_
        refine je_name 3 rfl rfl ?_
        refine je_int ?_
        refine d_cmpI ?_
        refine ⟨_, rfl, ?_⟩
        refine ⟨fun h1 => ?_, fun h1 => ⟨by have z : j = 0 := (by have := of_decide_eq_false h1; omega); subst z; rfl, rfl⟩⟩
        have h1 := of_decide_eq_true h1
        refine jw_and1 ?_
        refine jt_eq c ?_
        refine je_ix ?_
        refine je_ix ?_
        refine je_name 1 rfl rfl ?_
        refine je_sub ?_
        refine je_name 3 rfl rfl ?_
        refine je_int ?_
        refine d_subI ?_
        refine d_ixV (j - 1) (by omega) (by omega) ?_
        refine je_int ?_
        first | refine d_ixT rfl ?_ | refine d_ixB0 ?_
        refine je_ix ?_
        refine je_ix ?_
        refine je_name 1 rfl rfl ?_
        refine je_name 3 rfl rfl ?_
        refine d_ixV (j) (by omega) (by omega) ?_
        refine je_int ?_
        first | refine d_ixT rfl ?_ | refine d_ixB0 ?_
        first | refine d_eqI ?_ | refine d_eqS ?_ | refine d_eqB ?_ | refine d_eqNI ?_
        refine ⟨_, rfl, ?_⟩
        exact ⟨by unfold isFst; rw [decide_eq_true (show 0 < j by omega)]; simp, rfl⟩
      refine ⟨fun h2 => ?_, fun h2 => ?_⟩
      ·
        refine jb_cons (js_continue ?_)
        refine ⟨_, ?_, rfl, ?_⟩
        · walk_at "le"
        · rw [brokenTo_succ, if_neg (by simpa using h2), List.append_nil]
      refine jb_nil ?_
      refine jb_cons (js_set 4 c rfl ?_)
      refine je_int ?_
      refine jb_cons (js_forT 5 c.calm ow (pg_name (i := 5) c.nd rfl (by first | exact Or.inl rfl | exact Or.inr rfl)) ?_)
      refine ji_range2 T.m_range ?_
      refine ja_cons ?_
      refine je_name 3 rfl rfl ?_
      refine ja_cons ?_
      refine je_cB call_lenA T.m_len PySem.boot_len ?_
      refine ja_cons ?_
      refine je_name 1 rfl rfl ?_
      refine ja_nil ?_
      first | refine d_lenM (by walk_at "sq") ?_ | refine d_lenL (by walk_at "sq") ?_ | refine d_lenT ?_ | refine d_lenS (by walk_at "lens") ?_
      refine ja_nil ?_
      refine ⟨_, _, rfl, by omega, ?_⟩
      refine ⟨fun i e μ' => e = [some d, some (.lst (vs.map encV.dv)), some (.obj fa), some (.int (j : Int)), some (.int (usedL vs j i)), none, none] ∧ μ' = updM μ fa (.lst ((brokenTo b vs j ++ rowB b vs j i).map encV.dv)), ?_, fun _ _ _ _ => trivial, fun i x e μ' hx iv => ?_, fun e μ' iv n' hle => ?_⟩
      · refine ⟨_, ?_, rfl, ?_⟩
        · walk_at "le"
        · show _ = updM μ fa (.lst ((brokenTo b vs j ++ []).map encV.dv)); rw [List.append_nil]
      ·
        obtain ⟨rfl, rfl⟩ := iv
        obtain ⟨rfl, hi⟩ := rng_item hx
        have hji : j + i < vs.length := by omega
        have hsz : (brokenTo b vs j ++ rowB b vs j i).length < sizeLine := by
          have z1 := brokenTo_len b vs j
          have z2 := rowB_len b vs j i
          have z3 : j * vs.length ≤ 1000 * 1000 := Nat.mul_le_mul (by omega) hz
          rw [List.length_append, sizeLine_eq]; omega
        refine jb_cons (js_augI 4 c rfl ip_add rfl ?_)
        refine je_ix ?_
        refine je_ix ?_
        refine je_name 1 rfl rfl ?_
        refine je_name 5 rfl rfl ?_
        refine d_ixV (j + i) (by omega) (by omega) ?_
        refine je_int ?_
        first | refine d_ixT rfl ?_ | refine d_ixB1 ?_
        refine ⟨_, rfl, ?_⟩
        refine jb_cons (js_if ?_)
        refine jt_to (isLast vs (j + i)) ?_ ?_
        ·
          refine jt_w ?_
          refine jw_or ?_
          refine jt_eq c ?_
          refine je_add ?_
          refine je_name 5 rfl rfl ?_
          refine je_int ?_
          first | refine d_addI ?_ | refine d_addL (by constructor) (by constructor) (by walk_at "lens") ?_ | refine d_addS (by walk_at "lens") ?_ | refine d_addT (by walk_at "lens") ?_
          refine je_cB call_lenA T.m_len PySem.boot_len ?_
          refine ja_cons ?_
          refine je_name 1 rfl rfl ?_
          refine ja_nil ?_
          first | refine d_lenM (by walk_at "sq") ?_ | refine d_lenL (by walk_at "sq") ?_ | refine d_lenT ?_ | refine d_lenS (by walk_at "lens") ?_
          first | refine d_eqI ?_ | refine d_eqS ?_ | refine d_eqB ?_ | refine d_eqNI ?_
          refine ⟨_, rfl, ?_⟩
          refine ⟨fun h3 => ⟨by unfold isLast; rw [decide_eq_true (show j + i + 1 = vs.length by have := of_decide_eq_true h3; omega)]; simp, rfl⟩, fun h3 => ?_⟩
          have h3 := of_decide_eq_false h3
          refine jw_or1 ?_
          refine jt_gt ?_
          refine je_ix ?_
          refine je_ix ?_
          refine je_name 1 rfl rfl ?_
          refine je_add ?_
          refine je_name 5 rfl rfl ?_
          refine je_int ?_
          first | refine d_addI ?_ | refine d_addL (by constructor) (by constructor) (by walk_at "lens") ?_ | refine d_addS (by walk_at "lens") ?_ | refine d_addT (by walk_at "lens") ?_
          refine d_ixV (j + i + 1) (by omega) (by omega) ?_
          refine je_int ?_
          first | refine d_ixT rfl ?_ | refine d_ixB0 ?_
          refine je_ix ?_
          refine je_ix ?_
          refine je_name 1 rfl rfl ?_
          refine je_name 5 rfl rfl ?_
          refine d_ixV (j + i) (by omega) (by omega) ?_
          refine je_int ?_
          first | refine d_ixT rfl ?_ | refine d_ixB0 ?_
          refine d_cmpI ?_
          refine ⟨_, rfl, ?_⟩
          exact ⟨by unfold isLast; rw [decide_eq_false (show ¬ j + i + 1 = vs.length by omega)]; simp, rfl⟩
        refine ⟨fun h4 => ?_, fun h4 => ?_⟩
        ·
          refine jb_cons (js_set 6 c rfl ?_)
          refine je_room c M_Jar_room M_Window_room (by decide) b ok ?_
          refine je_name 0 rfl rfl ?_
          refine ⟨hb.ext (ext_new hfa), ?_⟩
          refine ja_cons ?_
          refine je_ix ?_
          refine je_ix ?_
          refine je_name 1 rfl rfl ?_
          refine je_name 3 rfl rfl ?_
          refine d_ixV (j) (by omega) (by omega) ?_
          refine je_int ?_
          first | refine d_ixT rfl ?_ | refine d_ixB0 ?_
          refine ja_cons ?_
          refine je_ix ?_
          refine je_ix ?_
          refine je_name 1 rfl rfl ?_
          refine je_name 5 rfl rfl ?_
          refine d_ixV (j + i) (by omega) (by omega) ?_
          refine je_int ?_
          first | refine d_ixT rfl ?_ | refine d_ixB0 ?_
          refine ja_nil ?_
          refine ⟨_, _, rfl, hb.ext (ext_new hfa), ?_⟩
          rcases hr : b.room (vAt vs j).1 (vAt vs (j + i)).1 with _ | r
          · refine jb_cons (js_if ?_)
            refine jt_w ?_
            refine jw_and ?_
            refine jt_isnot ?_
            refine je_name 6 rfl rfl ?_
            refine je_non ?_
            refine d_isnotN ?_
            refine ⟨_, rfl, ?_⟩
            refine ⟨fun z => absurd (show false = true from z) (by decide), fun _ => ?_⟩
            refine ⟨fun z => (nomatch z), fun _ => ?_⟩
            refine jb_nil (jb_nil (jb_nil ?_))
            refine ⟨_, ?_, rfl, ?_⟩
            · rw [usedL_succ hji]; walk_at "le"
            · rw [rowB_succ, if_neg (by unfold brk; rw [show over b vs j (j + i) = false by unfold over; rw [hr]]; simp), List.append_nil]
          refine jb_cons (js_if ?_)
          refine jt_w ?_
          refine jw_and ?_
          refine jt_isnot ?_
          refine je_name 6 rfl rfl ?_
          refine je_non ?_
          refine d_isnotN ?_
          refine ⟨_, rfl, ?_⟩
          refine ⟨fun h5 => ?_, fun h5 => absurd (show true = false from h5) (by decide)⟩
          refine jw_and1 ?_
          refine jt_gt ?_
          refine je_name 4 rfl rfl ?_
          refine je_name 6 rfl rfl ?_
          refine d_cmpI ?_
          refine ⟨_, rfl, ?_⟩
          refine ⟨fun h6 => ?_, fun h6 => ?_⟩
          ·
            refine jb_cons (js_expr ?_)
            refine je_append ?_
            refine je_name 2 rfl rfl ?_
            refine ⟨_, rfl, ⟨_, by first | assumption | exact updM_same | (rw [updM_ne (by assumption)]; assumption)⟩, ?_⟩
            refine je_tup ?_
            refine ja_cons ?_
            refine je_ix ?_
            refine je_ix ?_
            refine je_name 1 rfl rfl ?_
            refine je_name 3 rfl rfl ?_
            refine d_ixV (j) (by omega) (by omega) ?_
            refine je_int ?_
            first | refine d_ixT rfl ?_ | refine d_ixB0 ?_
            refine ja_cons ?_
            refine je_ix ?_
            refine je_ix ?_
            refine je_name 1 rfl rfl ?_
            refine je_name 5 rfl rfl ?_
            refine d_ixV (j + i) (by omega) (by omega) ?_
            refine je_int ?_
            first | refine d_ixT rfl ?_ | refine d_ixB0 ?_
            refine ja_nil ?_
            refine ⟨by walk_at "lens", ?_⟩
            refine ⟨_, by first | assumption | exact updM_same | (rw [updM_ne (by assumption)]; assumption), by walk_at "lens", ?_⟩
            refine jb_nil (jb_nil (jb_nil ?_))
            refine ⟨_, ?_, rfl, ?_⟩
            · rw [usedL_succ hji]; walk_at "le"
            · have hb : brk b vs j (j + i) = true := by unfold brk over; rw [hr, ‹isLast vs (j + i) = true›]; unfold usedAE; rw [show j + i + 1 - j = i + 1 by omega, usedL_succ hji]; exact ‹decide _ = true›
              rw [updM_updM, rowB_succ, if_pos hb, ← List.append_assoc, List.map_append (l₁ := brokenTo b vs j ++ rowB b vs j i)]; rfl
          refine jb_nil ?_
          refine jb_nil (jb_nil ?_)
          refine ⟨_, ?_, rfl, ?_⟩
          · rw [usedL_succ hji]; walk_at "le"
          · rw [rowB_succ, if_neg (by unfold brk; rw [show over b vs j (j + i) = false by unfold over usedAE; rw [hr, show j + i + 1 - j = i + 1 by omega, usedL_succ hji]; exact ‹decide _ = false›]; simp), List.append_nil]
        refine jb_nil ?_
        refine jb_nil ?_
        refine ⟨_, ?_, rfl, ?_⟩
        · rw [usedL_succ hji]; walk_at "le"
        · rw [rowB_succ, if_neg (by unfold brk; rw [‹isLast vs (j + i) = false›]; simp), List.append_nil]
      obtain ⟨rfl, rfl⟩ := iv
      refine JB.le ?_ hle
      refine jb_nil ?_
      refine ⟨_, ?_, rfl, ?_⟩
      · walk_at "le"
      · rw [brokenTo_succ, if_pos (by simpa using h2), rng_len, show ((vs.length : Int) - (j : Int)).toNat = vs.length - j by omega]
    obtain ⟨rfl, rfl⟩ := iv
    refine JB.le ?_ hle
    rw [rng_len, show ((vs.length : Int)).toNat = vs.length by omega]
    refine jb_freeze 2 rfl updM_same ?_
    rw [delM_updM hfa]
    refine jb_cons (js_ret ?_)
    refine je_name 2 rfl rfl ?_
    exact hk
theorem sc_broken : FnScope ["bound", "visits", "found"] ["bound", "visits"] (defScope s_broken) := ⟨rfl, rfl, rfl, by decide +kernel, rfl, by decide +kernel, by decide +kernel⟩
theorem ok_broken {f : Addr} {fd : FuncData} (F : Fun K "broken" "broken" s_broken f fd) (T : Txt K mg A) (F_broken_all : DCal Pg w K mg base 2 "broken_all" (S_broken_all A) []) : FnOk Pg w K mg base (L2.CX Pg w) 3 f fd ["bound", "visits"] (toSp K (S_broken A)) := by
  refine fn_data F sc_broken (fun ds μ kd ke h => ?_) (fun cdv A_ outer s H E c ow ds μ kd ke h => ?_)
  · obtain ⟨b, d, vs, rfl, hb, ok, hz, hk⟩ := h; rfl
  · obtain ⟨b, d, vs, rfl, hb, ok, hz, hk⟩ := h
    refine jb_cons (js_set 2 c rfl ?_)
    refine je_call c F_broken_all (by decide) ?_
    refine ja_cons ?_
    refine je_name 0 rfl rfl ?_
    refine ja_cons ?_
    refine je_name 1 rfl rfl ?_
    refine ja_nil ?_
    refine ⟨b, d, vs, rfl, hb, ok, hz, ?_⟩
    refine jb_cons (js_ret ?_)
    refine je_ite ?_
    refine jt_ne c ?_
    refine je_name 2 rfl rfl ?_
    refine (je_lst ?_ : _)
    refine ja_nil ?_
    refine ⟨by walk_at "lens", ?_⟩
    first | refine d_neI ?_ | refine d_neNil Enc.int (by decide) _ (.inr rfl) ?_ | refine d_neNil encV (by decide) _ (.inl rfl) ?_ | refine d_neS ?_ | refine d_neB ?_ | refine d_neNI ?_
    refine ⟨_, rfl, ?_⟩
    refine ⟨fun h1 => ?_, fun h1 => ?_⟩
    ·
      refine je_ix ?_
      refine je_name 2 rfl rfl ?_
      refine je_int ?_
      refine d_ixMap encV.dv _ (0, 0) (.lst _) (by decide) (by have := List.length_pos_iff.mpr (show brokenAll b vs ≠ [] by simpa using h1); omega) ?_
      have hne : brokenAll b vs ≠ [] := by simpa using h1
      cases q : brokenAll b vs with
      | nil => exact absurd q hne
      | cons p r =>
        unfold brokenF at hk
        rw [q] at hk
        exact hk
    ·
      refine je_non ?_
      have hne : brokenAll b vs = [] := by simpa using h1
      unfold brokenF at hk
      rw [hne] at hk
      exact hk
theorem sc_with_visit : FnScope ["visits", "moment", "cost", "at", "one"] ["visits", "moment", "cost"] (defScope s_with_visit) := ⟨rfl, rfl, rfl, by decide +kernel, rfl, by decide +kernel, by decide +kernel⟩
theorem ok_with_visit {f : Addr} {fd : FuncData} (F : Fun K "with_visit" "with_visit" s_with_visit f fd) (T : Txt K mg A) : FnOk Pg w K mg base (L2.CX Pg w) 1 f fd ["visits", "moment", "cost"] (toSp K (S_with_visit A)) := by
  refine fn_data F sc_with_visit (fun ds μ kd ke h => ?_) (fun cdv A_ outer s H E c ow ds μ kd ke h => ?_)
  · obtain ⟨vs, t, c_, rfl, hl, hk⟩ := h; rfl
  · obtain ⟨vs, t, c_, rfl, hl, hk⟩ := h
    refine jb_cons (js_set 3 c rfl ?_)
    refine je_cB call_lenA T.m_len PySem.boot_len ?_
    refine ja_cons ?_
    refine je_lcG (x := "one") 4 c.calm c.nd (blkOk_by (N := ["visits", "moment", "cost", "at", "one"]) (sc := defScope s_with_visit) (by decide +kernel)) (fun _ _ _ _ _ => pg_name (i := 4) c.nd rfl (Or.inl rfl)) ?_
    refine ji_seq ?_
    refine je_name 0 rfl rfl ?_
    refine ⟨_, by walk_at "sq", ?_⟩
    refine lc_map encV.dv vs (fun p => if p.1 ≤ t then some (encV.dv p) else none) rfl (.lst _) (by rw [sizeLine_eq]; omega) (fun j x μ' hx hμ => ?_) ?_
    ·
      intro s1 H1 C1 cl1 fp1
      refine jt_le ?_
      refine je_ix ?_
      refine je_name 4 rfl rfl ?_
      refine je_int ?_
      first | refine d_ixT rfl ?_ | refine d_ixB0 ?_
      refine je_name 1 rfl rfl ?_
      refine d_cmpI ?_
      refine ⟨_, rfl, ?_⟩
      refine ⟨fun h1 s2 H2 C2 cl2 fp2 => ?_, fun h1 => ⟨(if_neg (of_decide_eq_false h1)).symm, rfl⟩⟩
      refine je_name 4 rfl rfl ?_
      exact ⟨(if_pos (of_decide_eq_true h1)).symm, rfl⟩
    rw [fm_if (fun p : Int × Int => p.1 ≤ t) encV.dv vs]
    refine ja_nil ?_
    refine d_lenL (.lst _) ?_
    rw [List.length_map]
    have hfl : (vs.filter fun p => decide (p.1 ≤ t)).length ≤ vs.length := List.length_filter_le _ _
    refine jb_cons (js_ret ?_)
    refine je_add ?_
    refine je_add ?_
    refine je_slice ?_
    refine je_name 0 rfl rfl ?_
    refine je_name 3 rfl rfl ?_
    refine ⟨_, rfl, ?_⟩
    refine ⟨_, by constructor, ?_⟩
    try rw [cutD_map]
    refine (je_lst ?_ : _)
    refine ja_cons ?_
    refine je_tup ?_
    refine ja_cons ?_
    refine je_name 1 rfl rfl ?_
    refine ja_cons ?_
    refine je_name 2 rfl rfl ?_
    refine ja_nil ?_
    refine ⟨by walk_at "lens", ?_⟩
    refine ja_nil ?_
    refine ⟨by walk_at "lens", ?_⟩
    rw [cutG_take hfl]
    refine d_addL (.lst _) (.lst _) (by rw [List.length_map, List.length_take, sizeLine_eq]; simp only [List.length_cons, List.length_nil]; omega) ?_
    refine je_slice ?_
    refine je_name 0 rfl rfl ?_
    refine je_name 3 rfl rfl ?_
    refine ⟨_, rfl, ?_⟩
    refine ⟨_, by constructor, ?_⟩
    try rw [cutD_map]
    rw [cutG_drop hfl]
    refine d_addL (.lst _) (.lst _) (by rw [List.length_append, List.length_map, List.length_map, List.length_take, List.length_drop, sizeLine_eq]; simp only [List.length_cons, List.length_nil]; omega) ?_
    rw [show [Dv.tup [.int t, .int c_]] = [(t, c_)].map encV.dv from rfl, ← List.map_append, ← List.map_append]
    exact hk
theorem sc_need_kept : FnScope ["bounds", "visits", "k", "bound", "stretch"] ["bounds", "visits"] (defScope s_need_kept) := ⟨rfl, rfl, rfl, by decide +kernel, rfl, by decide +kernel, by decide +kernel⟩
theorem ok_need_kept {f : Addr} {fd : FuncData} (F : Fun K "need_kept" "need_kept" s_need_kept f fd) (T : Txt K mg A) (F_broken : DCal Pg w K mg base 3 "broken" (S_broken A) []) (F_Broken : DExI Pg w K mg base 1 "Broken" A.CBK (sp2 "k" "stretch" A.CBK)) : FnOk Pg w K mg base (L2.CX Pg w) 4 f fd ["bounds", "visits"] (toSp K (S_need_kept A)) := by
  refine fn_data F sc_need_kept (fun ds μ kd ke h => ?_) (fun cdv A_ outer s H E c ow ds μ kd ke h => ?_)
  · obtain ⟨xs, bs, vs, rfl, hb, ok, hz, hk1, hk2⟩ := h; rfl
  · obtain ⟨xs, bs, vs, rfl, hb, ok, hz, hk1, hk2⟩ := h
    refine jb_cons (js_forE 2 3 c rfl rfl ow T.m_enumerate ?_ (hg := pg_tup c.calm (pgs_cons (pg_name (i := 2) c.nd rfl (by first | exact Or.inl rfl | exact Or.inr rfl)) (pgs_cons (pg_name (i := 3) c.nd rfl (by first | exact Or.inl rfl | exact Or.inr rfl)) pgs_nil))))
    refine je_name 0 rfl rfl ?_
    refine ⟨_, .lst _, fun j e μ' => e = [some (.lst xs), some (.lst (vs.map encV.dv)), none, none, none] ∧ μ = μ' ∧ ∀ i c, i < j → bs[i]? = some c → brokenF c vs = none, ?_, fun _ _ _ _ => .lst _, fun j x e μ' hx iv => ?_, fun e μ' iv n' hle => ?_⟩
    · exact ⟨_, LeE.refl _, rfl, rfl, fun i c2 hi => absurd hi (by omega)⟩
    ·
      obtain ⟨rfl, rfl, hp⟩ := iv
      obtain ⟨b, hbj, hbd⟩ := hb.get hx
      rcases hbr : brokenF b vs with _ | p
      ·
        
        refine jb_cons (js_set 4 c rfl ?_)
        refine je_call c F_broken (by decide) ?_
        refine ja_cons ?_
        refine je_name 3 rfl rfl ?_
        refine ja_cons ?_
        refine je_name 1 rfl rfl ?_
        refine ja_nil ?_
        refine ⟨b, x, vs, rfl, hbd, ok b (List.mem_of_getElem? hbj), hz, ?_⟩
        rw [hbr]
        refine jb_cons (js_if ?_)
        refine jt_isnot ?_
        refine je_name 4 rfl rfl ?_
        refine je_non ?_
        refine d_isnotN ?_
        refine ⟨_, rfl, ?_⟩
        refine ⟨fun h1 => absurd h1 (by decide), fun h1 => ?_⟩
        refine jb_nil ?_
        refine jb_nil ?_ --! turn   --#4
        refine ⟨_, ?_, rfl, rfl, fun i c2 hi hc => ?_⟩
        · walk_at "le"
        · by_cases z : i = j
          · subst z; rw [hbj] at hc; cases hc; exact hbr
          · exact hp i c2 (by omega) hc
      ·
        
        refine jb_cons (js_set 4 c rfl ?_)
        refine je_call c F_broken (by decide) ?_
        refine ja_cons ?_
        refine je_name 3 rfl rfl ?_
        refine ja_cons ?_
        refine je_name 1 rfl rfl ?_
        refine ja_nil ?_
        refine ⟨b, x, vs, rfl, hbd, ok b (List.mem_of_getElem? hbj), hz, ?_⟩
        rw [hbr]
        refine jb_cons (js_if ?_)
        refine jt_isnot ?_
        refine je_name 4 rfl rfl ?_
        refine je_non ?_
        refine d_isnotN ?_
        refine ⟨_, rfl, ?_⟩
        refine ⟨fun h1 => ?_, fun h1 => absurd (show true = false from h1) (by decide)⟩
        refine jb_cons (js_raiseI2 c F_Broken (by decide) ?_)
        refine je_name 2 rfl rfl ?_
        refine je_name 4 rfl rfl ?_
        exact hk1 j p (brkOf_hit hbj hbr hp)
    obtain ⟨rfl, rfl, hp⟩ := iv
    refine JB.le ?_ hle
    exact jb_nil (hk2 (brkOf_none fun b hbm => by
      obtain ⟨i, hi⟩ := List.getElem?_of_mem hbm
      exact hp i b (by have := (List.getElem?_eq_some_iff.mp hi).1; rw [hb.length]; exact this) hi))
theorem sc_filled_at : FnScope ["bound", "used", "first"] ["bound", "used", "first"] (defScope s_filled_at) := ⟨rfl, rfl, rfl, by decide +kernel, rfl, by decide +kernel, by decide +kernel⟩
theorem ok_filled_at {f : Addr} {fd : FuncData} (F : Fun K "filled_at" "filled_at" s_filled_at f fd) (T : Txt K mg A) : FnOk Pg w K mg base (L2.CX Pg w) 1 f fd ["bound", "used", "first"] (toSp K (S_filled_at A)) := by
  refine fn_data F sc_filled_at (fun ds μ kd ke h => ?_) (fun cdv A_ outer s H E c ow ds μ kd ke h => ?_)
  · obtain ⟨d, b, used, first, rfl, hb, ok, hk⟩ := h; rfl
  · obtain ⟨d, b, used, first, rfl, hb, ok, hk⟩ := h
    rcases b with ⟨bs, bf⟩ | ⟨bs, bf⟩
    ·
      have hi : InsD μ d A.CJ (jarF bs bf) := hb
      refine jb_cons (js_if ?_)
      refine jt_not ?_
      refine jt_val ?_
      refine je_cB call_isiA T.m_isinstance PyProof.Rows.boot_isinstance ?_
      refine ja_cons ?_
      refine je_name 0 rfl rfl ?_
      refine ja_cons ?_
      refine je_glob T.g_Jar ?_
      refine ja_nil ?_
      refine d_isi (.ins hi T.cl_Jar T.ic_Jar T.isn T.ist T.im_Jar) (.own _) T.kit_Jar_Jar ?_
      refine ⟨_, rfl, ?_⟩
      refine ⟨fun h1 => absurd h1 (by decide), fun h1 => ?_⟩
      refine jb_nil ?_
      refine jb_cons (js_if ?_)
      refine jt_eq c ?_
      refine je_fld ?_
      refine je_name 0 rfl rfl ?_
      refine ⟨_, _, _, hi, T.cl_Jar, T.na_Jar_flow, jarF_flow _ _, ?_⟩
      refine je_int ?_
      first | refine d_eqI ?_ | refine d_eqS ?_ | refine d_eqB ?_ | refine d_eqNI ?_
      refine ⟨_, rfl, ?_⟩
      refine ⟨fun h2 => ?_, fun h2 => ?_⟩
      ·
        refine jb_cons (js_ret ?_)
        refine je_non ?_
        rw [show filledAt (.jar bs bf) used first = none from if_pos (of_decide_eq_true h2)] at hk
        exact hk
      refine jb_nil ?_
      have hf0 := of_decide_eq_false h2
      have hf1 : 0 ≤ bf := ok.2.1
      have hf2 : bf ≤ 1000000000 := ok.2.2
      refine jb_cons (js_ret ?_)
      refine je_add ?_
      refine je_name 2 rfl rfl ?_
      refine je_fdiv ?_
      refine je_sub ?_
      refine je_add ?_
      refine je_sub ?_
      refine je_name 1 rfl rfl ?_
      refine je_fld ?_
      refine je_name 0 rfl rfl ?_
      refine ⟨_, _, _, hi, T.cl_Jar, T.na_Jar_size, jarF_size _ _, ?_⟩
      refine d_subI ?_
      refine je_fld ?_
      refine je_name 0 rfl rfl ?_
      refine ⟨_, _, _, hi, T.cl_Jar, T.na_Jar_flow, jarF_flow _ _, ?_⟩
      first | refine d_addI ?_ | refine d_addL (by constructor) (by constructor) (by walk_at "lens") ?_ | refine d_addS (by walk_at "lens") ?_ | refine d_addT (by walk_at "lens") ?_
      refine je_int ?_
      refine d_subI ?_
      refine je_fld ?_
      refine je_name 0 rfl rfl ?_
      refine ⟨_, _, _, hi, T.cl_Jar, T.na_Jar_flow, jarF_flow _ _, ?_⟩
      refine d_fdivI (by walk_at "cd") ?_
      first | refine d_addI ?_ | refine d_addL (by constructor) (by constructor) (by walk_at "lens") ?_ | refine d_addS (by walk_at "lens") ?_ | refine d_addT (by walk_at "lens") ?_
      rw [show filledAt (.jar bs bf) used first = some _ from if_neg (of_decide_eq_false h2)] at hk
      exact hk
    ·
      have hi : InsD μ d A.CW (winF bs bf) := hb
      refine jb_cons (js_if ?_)
      refine jt_not ?_
      refine jt_val ?_
      refine je_cB call_isiA T.m_isinstance PyProof.Rows.boot_isinstance ?_
      refine ja_cons ?_
      refine je_name 0 rfl rfl ?_
      refine ja_cons ?_
      refine je_glob T.g_Jar ?_
      refine ja_nil ?_
      refine d_isi (.ins hi T.cl_Window T.ic_Window T.isn T.ist T.im_Window) (.own _) T.kit_Window_Jar ?_
      refine ⟨_, rfl, ?_⟩
      refine ⟨fun h1 => ?_, fun h1 => absurd h1 (by decide)⟩
      refine jb_cons (js_ret ?_)
      refine je_add ?_
      refine je_name 2 rfl rfl ?_
      refine je_fld ?_
      refine je_name 0 rfl rfl ?_
      refine ⟨_, _, _, hi, T.cl_Window, T.na_Window_span, winF_span _ _, ?_⟩
      first | refine d_addI ?_ | refine d_addL (by constructor) (by constructor) (by walk_at "lens") ?_ | refine d_addS (by walk_at "lens") ?_ | refine d_addT (by walk_at "lens") ?_
      exact hk
theorem sc_behind : FnScope ["bound", "visits", "moment", "cost", "stretch", "first", "last", "one"] ["bound", "visits", "moment", "cost", "stretch"] (defScope s_behind) := ⟨rfl, rfl, rfl, by decide +kernel, rfl, by decide +kernel, by decide +kernel⟩
theorem ok_behind {f : Addr} {fd : FuncData} (F : Fun K "behind" "behind" s_behind f fd) (T : Txt K mg A) (F_filled_at : DCal Pg w K mg base 1 "filled_at" (S_filled_at A) []) : FnOk Pg w K mg base (L2.CX Pg w) 2 f fd ["bound", "visits", "moment", "cost", "stretch"] (toSp K (S_behind A)) := by
  refine fn_data F sc_behind (fun ds μ kd ke h => ?_) (fun cdv A_ outer s H E c ow ds μ kd ke h => ?_)
  · obtain ⟨d, b, vs, t, c_, p, rfl, hb, ok, hl, hq, hk⟩ := h; rfl
  · obtain ⟨d, b, vs, t, c_, p, rfl, hb, ok, hl, hq, hk⟩ := h
    refine jb_cons (js_tup2 5 6 c rfl rfl ?_ (ht := pg_tup c.calm (pgs_cons (pg_name (i := 5) c.nd rfl (by first | exact Or.inl rfl | exact Or.inr rfl)) (pgs_cons (pg_name (i := 6) c.nd rfl (by first | exact Or.inl rfl | exact Or.inr rfl)) pgs_nil))))
    refine je_name 4 rfl rfl ?_
    refine ⟨.int p.1, .int p.2, rfl, ?_⟩
    refine jb_cons (js_if ?_)
    refine jt_w ?_
    apply jw_andP
    ·
      refine jt_gt ?_
      refine je_name 6 rfl rfl ?_
      refine je_name 2 rfl rfl ?_
      refine d_cmpI ?_
      refine ⟨_, rfl, ?_⟩
      exact ⟨rfl, rfl⟩
    ·
      intro h1
      refine jw_and1 ?_
      refine jt_lt ?_
      refine je_name 5 rfl rfl ?_
      refine je_name 2 rfl rfl ?_
      refine d_cmpI ?_
      refine ⟨_, rfl, ?_⟩
      exact ⟨rfl, rfl⟩
    refine ⟨fun h2 => ?_, fun h2 => ?_⟩
    ·
      refine jb_cons (js_ret ?_)
      refine je_add ?_
      refine je_name 6 rfl rfl ?_
      refine je_int ?_
      first | refine d_addI ?_ | refine d_addL (by constructor) (by constructor) (by walk_at "lens") ?_ | refine d_addS (by walk_at "lens") ?_ | refine d_addT (by walk_at "lens") ?_
      rw [show behindV b vs t c_ p = some (p.2 + 1) from if_pos (and_dec h2)] at hk
      exact hk
    refine jb_nil ?_
    refine jb_cons (js_if ?_)
    refine jt_gt ?_
    refine je_name 6 rfl rfl ?_
    refine je_name 2 rfl rfl ?_
    refine d_cmpI ?_
    refine ⟨_, rfl, ?_⟩
    refine ⟨fun h3 => ?_, fun h3 => ?_⟩
    ·
      refine jb_cons (js_ret ?_)
      refine je_add ?_
      refine je_cB (cr_min c.calm) T.m_min PyProof.Rows.boot_min ?_
      refine ja_cons ?_
      refine je_lcG (x := "one") 7 c.calm c.nd (blkOk_by (N := ["bound", "visits", "moment", "cost", "stretch", "first", "last", "one"]) (sc := defScope s_behind) (by decide +kernel)) (fun _ _ _ _ _ => pg_name (i := 7) c.nd rfl (Or.inl rfl)) ?_
      refine ji_seq ?_
      refine je_name 1 rfl rfl ?_
      refine ⟨_, by walk_at "sq", ?_⟩
      refine lc_map encV.dv vs (fun q => if t ≤ q.1 then some (.int q.1) else none) rfl (.lst _) (by rw [sizeLine_eq]; omega) (fun j x μ' hx hμ => ?_) ?_
      ·
        intro s1 H1 C1 cl1 fp1
        refine jt_ge ?_
        refine je_ix ?_
        refine je_name 7 rfl rfl ?_
        refine je_int ?_
        first | refine d_ixT rfl ?_ | refine d_ixB0 ?_
        refine je_name 2 rfl rfl ?_
        refine d_cmpI ?_
        refine ⟨_, rfl, ?_⟩
        refine ⟨fun h4 s2 H2 C2 cl2 fp2 => ?_, fun h4 => ⟨(if_neg (of_decide_eq_false h4)).symm, rfl⟩⟩
        refine je_ix ?_
        refine je_name 7 rfl rfl ?_
        refine je_int ?_
        first | refine d_ixT rfl ?_ | refine d_ixB0 ?_
        exact ⟨(if_pos (of_decide_eq_true ‹decide (t ≤ x.1) = true›)).symm, rfl⟩
      rw [fm_if (fun q : Int × Int => t ≤ q.1) (fun q : Int × Int => Dv.int q.1) vs]
      refine ja_nil ?_
      refine d_minL (ns := (vs.filter fun q => decide (t ≤ q.1)).map (·.1)) (by rw [List.map_map]; exact .lst _) ?_ fun m hm1 hm2 => ?_
      · obtain ⟨q, hq1, hq2⟩ := hq (of_decide_eq_true ‹decide (t < p.2) = true›)
        exact List.length_pos_iff.mpr (List.ne_nil_of_mem (List.mem_map.mpr ⟨q, List.mem_filter.mpr ⟨hq1, decide_eq_true hq2⟩, rfl⟩))
      refine je_int ?_
      first | refine d_addI ?_ | refine d_addL (by constructor) (by constructor) (by walk_at "lens") ?_ | refine d_addS (by walk_at "lens") ?_ | refine d_addT (by walk_at "lens") ?_
      obtain rfl := minL_uniq hm1 hm2
      have e : behindV b vs t c_ p = some (minL ((vs.filter fun q => decide (t ≤ q.1)).map (·.1)) + 1) := by
        unfold behindV
        rw [if_neg (fun z => by rw [decide_eq_true z.1, decide_eq_true z.2] at h2; cases h2), if_pos (of_decide_eq_true h3)]
      rw [e] at hk
      exact hk
    refine jb_nil ?_
    refine jb_cons (js_ret ?_)
    refine je_call c F_filled_at (by decide) ?_
    refine ja_cons ?_
    refine je_name 0 rfl rfl ?_
    refine ja_cons ?_
    refine je_add ?_
    refine je_name 3 rfl rfl ?_
    refine je_cB (cr_sum c.calm) T.m_sum PyProof.Rows.boot_sum ?_
    refine ja_cons ?_
    refine je_lcG (x := "one") 7 c.calm c.nd (blkOk_by (N := ["bound", "visits", "moment", "cost", "stretch", "first", "last", "one"]) (sc := defScope s_behind) (by decide +kernel)) (fun _ _ _ _ _ => pg_name (i := 7) c.nd rfl (Or.inl rfl)) ?_
    refine ji_seq ?_
    refine je_name 1 rfl rfl ?_
    refine ⟨_, by walk_at "sq", ?_⟩
    refine lc_map encV.dv vs (fun q => if (decide (p.1 ≤ q.1) && decide (q.1 ≤ p.2)) = true then some (.int q.2) else none) rfl (.lst _) (by rw [sizeLine_eq]; omega) (fun j x μ' hx hμ => ?_) ?_
    ·
      intro s1 H1 C1 cl1 fp1
      apply jt_chainP op_le op_le
      · with_unfolding_all rfl
      ·
        refine je_name 5 rfl rfl ?_
        refine je_ix ?_
        refine je_name 7 rfl rfl ?_
        refine je_int ?_
        first | refine d_ixT rfl ?_ | refine d_ixB0 ?_
        refine d_cmpI ?_
        refine ⟨⟨rfl, rfl⟩, fun h5 => ?_⟩
        refine je_name 6 rfl rfl ?_
        refine d_cmpI ?_
        exact ⟨rfl, rfl⟩
      refine ⟨fun h6 s2 H2 C2 cl2 fp2 => ?_, fun h6 => ⟨(if_neg (by rw [h6]; decide)).symm, rfl⟩⟩
      refine je_ix ?_
      refine je_name 7 rfl rfl ?_
      refine je_int ?_
      first | refine d_ixT rfl ?_ | refine d_ixB1 ?_
      exact ⟨(if_pos ‹(decide (p.1 ≤ x.1) && decide (x.1 ≤ p.2)) = true›).symm, rfl⟩
    rw [fm_ifB]
    refine ja_nil ?_
    refine d_sum (ns := (vs.filter fun q => decide (p.1 ≤ q.1) && decide (q.1 ≤ p.2)).map (·.2)) (by rw [List.map_map]; exact .lst _) ?_
    first | refine d_addI ?_ | refine d_addL (by constructor) (by constructor) (by walk_at "lens") ?_ | refine d_addS (by walk_at "lens") ?_ | refine d_addT (by walk_at "lens") ?_
    refine ja_cons ?_
    refine je_name 5 rfl rfl ?_
    refine ja_nil ?_
    refine ⟨d, b, _, _, rfl, hb, ok, ?_⟩
    have e : behindV b vs t c_ p = filledAt b (c_ + ((vs.filter fun q => decide (p.1 ≤ q.1) && decide (q.1 ≤ p.2)).map (·.2)).sum) p.1 := by
      unfold behindV
      rw [if_neg (fun z => by rw [decide_eq_true z.1, decide_eq_true z.2] at h2; cases h2), if_neg (of_decide_eq_false h3)]
    rw [e] at hk
    exact hk
theorem sc_Book_init : FnScope ["self", "bounds"] ["self", "bounds"] (defScope s_Book_init) := ⟨rfl, rfl, rfl, by decide +kernel, rfl, by decide +kernel, by decide +kernel⟩
theorem ok_Book_init {f : Addr} {fd : FuncData} (F : Fun K "__init__" "Book.__init__" s_Book_init f fd) (T : Txt K mg A) (F_need_bounds : DCal Pg w K mg base 1 "need_bounds" (S_need_bounds A) []) : FnOk Pg w K mg base (L2.CX Pg w) 2 f fd ["self", "bounds"] (toSp K (S_Book_init A)) := by
  refine fn_data F sc_Book_init (fun ds μ kd ke h => ?_) (fun cdv A_ outer s H E c ow ds μ kd ke h => ?_)
  · obtain ⟨g, d_, xs, ys, rfl, hg, hd, ha, hz, hk1, hk2⟩ := h; rfl
  · obtain ⟨g, d_, xs, ys, rfl, hg, hd, ha, hz, hk1, hk2⟩ := h
    refine jb_cons (js_expr ?_)
    refine je_call c F_need_bounds (by decide) ?_
    refine ja_cons ?_
    refine je_name 1 rfl rfl ?_
    refine ja_cons ?_
    refine je_glob T.g_MOST_BOUNDS ?_
    refine ja_nil ?_
    refine ⟨_, _, _, _, rfl, hd, ha, hz, fun gb => ?_, fun gb => hk2 gb⟩
    refine jb_cons (js_fld ?_)
    refine je_cT call_list_of T.m_list PyProof.Rows.boot_list ?_
    refine ja_cons ?_
    refine je_name 1 rfl rfl ?_
    refine ja_nil ?_
    refine d_listLTD hd ?_
    refine je_name 0 rfl rfl ?_
    refine ⟨_, _, _, rfl, by first | assumption | exact updM_same | exact (updM_ne (ne_ofM updM_same ha_)).trans updM_same, T.cl_Book, T.na_Book_limits, by walk_at "fl", ?_⟩
    refine jb_cons (js_fld ?_)
    refine (je_lst ?_ : _)
    refine ja_nil ?_
    refine ⟨by walk_at "lens", ?_⟩
    refine je_name 0 rfl rfl ?_
    refine ⟨_, _, _, rfl, by first | assumption | exact updM_same | exact (updM_ne (ne_ofM updM_same ha_)).trans updM_same, T.cl_Book, T.na_Book_rows, by walk_at "fl", ?_⟩
    rw [updM_updM, bk_init]
    exact jb_nil (hk1 gb)
theorem sc_Book_visits : FnScope ["self"] ["self"] (defScope s_Book_visits) := ⟨rfl, rfl, rfl, by decide +kernel, rfl, by decide +kernel, by decide +kernel⟩
theorem ok_Book_visits {f : Addr} {fd : FuncData} (F : Fun K "visits" "Book.visits" s_Book_visits f fd) (T : Txt K mg A) : FnOk Pg w K mg base (L2.CX Pg w) 1 f fd ["self"] (toSp K (S_Book_visits A)) := by
  refine fn_data F sc_Book_visits (fun ds μ kd ke h => ?_) (fun cdv A_ outer s H E c ow ds μ kd ke h => ?_)
  · obtain ⟨b, xs, vs, rfl, hb, hk⟩ := h; rfl
  · obtain ⟨b, xs, vs, rfl, hb, hk⟩ := h
    have hg : μ b = some (.ins A.CBO (bkF xs vs)) := hb
    refine jb_cons (js_ret ?_)
    refine je_cT call_list_of T.m_list PyProof.Rows.boot_list ?_
    refine ja_cons ?_
    refine je_fld ?_
    refine je_name 0 rfl rfl ?_
    refine ⟨_, _, _, by first | exact .ins _ _ | exact .obj (by first | assumption | exact updM_same | exact hμ _ _ (by assumption)), T.cl_Book, T.na_Book_rows, bkF_rows .., ?_⟩
    refine ja_nil ?_
    refine d_listM (.lst _) fun p hp => ?_
    exact hk p hp
theorem sc_Book_put : FnScope ["self", "moment", "cost", "found"] ["self", "moment", "cost"] (defScope s_Book_put) := ⟨rfl, rfl, rfl, by decide +kernel, rfl, by decide +kernel, by decide +kernel⟩
theorem ok_Book_put {f : Addr} {fd : FuncData} (F : Fun K "put" "Book.put" s_Book_put f fd) (T : Txt K mg A) (F_need_moment : DCal Pg w K mg base 2 "need_moment" (S_need_moment A) []) (F_need_cost : DCal Pg w K mg base 2 "need_cost" (S_need_cost A) []) (F_with_visit : DCal Pg w K mg base 1 "with_visit" (S_with_visit A) []) (F_need_kept : DCal Pg w K mg base 4 "need_kept" (S_need_kept A) []) : FnOk Pg w K mg base (L2.CX Pg w) 5 f fd ["self", "moment", "cost"] (toSp K (S_Book_put A)) := by
  refine fn_data F sc_Book_put (fun ds μ kd ke h => ?_) (fun cdv A_ outer s H E c ow ds μ kd ke h => ?_)
  · obtain ⟨b, xs, bs, vs, dt, dc, vt, vc, rfl, B, tt, tc, hke1, hke2, hk⟩ := h; rfl
  · obtain ⟨b, xs, bs, vs, dt, dc, vt, vc, rfl, B, tt, tc, hke1, hke2, hk⟩ := h
    refine jb_cons (js_expr ?_)
    refine je_call c F_need_moment (by decide) ?_
    refine ja_cons ?_
    refine je_name 1 rfl rfl ?_
    refine ja_nil ?_
    refine ⟨_, _, rfl, tt, fun gM => ?_, fun gM => hke1 gM⟩
    refine jb_cons (js_expr ?_)
    refine je_call c F_need_cost (by decide) ?_
    refine ja_cons ?_
    refine je_name 2 rfl rfl ?_
    refine ja_nil ?_
    refine ⟨_, _, rfl, tc, fun gC => ?_, fun gC => hke2 gM gC⟩
    obtain ⟨t, rfl, _, _⟩ := goodB_some gM
    obtain ⟨c_, rfl, _, _⟩ := goodB_some gC
    obtain rfl := tt.num
    obtain rfl := tc.num
    have hg : μ b = some (.ins A.CBO (bkF xs vs)) := B.at_
    have hvl := B.vlen
    obtain ⟨hk1, hk2⟩ := hk t c_ gM gC rfl rfl
    refine jb_cons (js_if ?_)
    refine jt_eq c ?_
    refine je_cB call_lenA T.m_len PySem.boot_len ?_
    refine ja_cons ?_
    refine je_fld ?_
    refine je_name 0 rfl rfl ?_
    refine ⟨_, _, _, by first | exact .ins _ _ | exact .obj (by first | assumption | exact updM_same | exact hμ _ _ (by assumption)), T.cl_Book, T.na_Book_rows, bkF_rows .., ?_⟩
    refine ja_nil ?_
    first | refine d_lenM (by walk_at "sq") ?_ | refine d_lenL (by walk_at "sq") ?_ | refine d_lenT ?_ | refine d_lenS (by walk_at "lens") ?_
    refine je_glob T.g_MOST_VISITS ?_
    first | refine d_eqI ?_ | refine d_eqS ?_ | refine d_eqB ?_ | refine d_eqNI ?_
    refine ⟨_, rfl, ?_⟩
    refine ⟨fun h1 => ?_, fun h1 => ?_⟩
    ·
      refine jb_cons (js_raise c T.x_Full ?_)
      exact hk1 (by have := of_decide_eq_true h1; omega)
    refine jb_nil ?_
    have hne : vs.length ≠ 40 := by have := of_decide_eq_false h1; omega
    refine jb_cons (js_set 3 c rfl ?_)
    refine je_call c F_with_visit (by decide) ?_
    refine ja_cons ?_
    refine je_fld ?_
    refine je_name 0 rfl rfl ?_
    refine ⟨_, _, _, by first | exact .ins _ _ | exact .obj (by first | assumption | exact updM_same | exact hμ _ _ (by assumption)), T.cl_Book, T.na_Book_rows, bkF_rows .., ?_⟩
    refine ja_cons ?_
    refine je_name 1 rfl rfl ?_
    refine ja_cons ?_
    refine je_name 2 rfl rfl ?_
    refine ja_nil ?_
    refine ⟨vs, t, c_, rfl, by omega, ?_⟩
    refine jb_cons (js_expr ?_)
    refine je_call c F_need_kept (by decide) ?_
    refine ja_cons ?_
    refine je_fld ?_
    refine je_name 0 rfl rfl ?_
    refine ⟨_, _, _, by first | exact .ins _ _ | exact .obj (by first | assumption | exact updM_same | exact hμ _ _ (by assumption)), T.cl_Book, T.na_Book_limits, bkF_limits .., ?_⟩
    refine ja_cons ?_
    refine je_name 3 rfl rfl ?_
    refine ja_nil ?_
    refine ⟨xs, bs, _, rfl, B.bds, B.ok, by rw [withV_len]; omega, (hk2 hne).1, fun hn => ?_⟩
    refine jb_cons (js_fld ?_)
    refine je_name 3 rfl rfl ?_
    refine je_name 0 rfl rfl ?_
    refine ⟨_, _, _, rfl, by first | assumption | exact updM_same | exact (updM_ne (ne_ofM updM_same ha_)).trans updM_same, T.cl_Book, T.na_Book_rows, by walk_at "fl", ?_⟩
    rw [bk_rows]
    exact jb_nil ((hk2 hne).2 hn)
theorem sc_Book_drop : FnScope ["self", "moment", "cost", "at"] ["self", "moment", "cost"] (defScope s_Book_drop) := ⟨rfl, rfl, rfl, by decide +kernel, rfl, by decide +kernel, by decide +kernel⟩
theorem ok_Book_drop {f : Addr} {fd : FuncData} (F : Fun K "drop" "Book.drop" s_Book_drop f fd) (T : Txt K mg A) (F_need_moment : DCal Pg w K mg base 2 "need_moment" (S_need_moment A) []) (F_need_cost : DCal Pg w K mg base 2 "need_cost" (S_need_cost A) []) : FnOk Pg w K mg base (L2.CX Pg w) 3 f fd ["self", "moment", "cost"] (toSp K (S_Book_drop A)) := by
  refine fn_data F sc_Book_drop (fun ds μ kd ke h => ?_) (fun cdv A_ outer s H E c ow ds μ kd ke h => ?_)
  · obtain ⟨b, xs, bs, vs, dt, dc, vt, vc, rfl, B, tt, tc, hke1, hke2, hk⟩ := h; rfl
  · obtain ⟨b, xs, bs, vs, dt, dc, vt, vc, rfl, B, tt, tc, hke1, hke2, hk⟩ := h
    refine jb_cons (js_expr ?_)
    refine je_call c F_need_moment (by decide) ?_
    refine ja_cons ?_
    refine je_name 1 rfl rfl ?_
    refine ja_nil ?_
    refine ⟨_, _, rfl, tt, fun gM => ?_, fun gM => hke1 gM⟩
    refine jb_cons (js_expr ?_)
    refine je_call c F_need_cost (by decide) ?_
    refine ja_cons ?_
    refine je_name 2 rfl rfl ?_
    refine ja_nil ?_
    refine ⟨_, _, rfl, tc, fun gC => ?_, fun gC => hke2 gM gC⟩
    obtain ⟨t, rfl, _, _⟩ := goodB_some gM
    obtain ⟨c_, rfl, _, _⟩ := goodB_some gC
    obtain rfl := tt.num
    obtain rfl := tc.num
    have hg : μ b = some (.ins A.CBO (bkF xs vs)) := B.at_
    have hvl := B.vlen
    obtain ⟨hk1, hk2⟩ := hk t c_ gM gC rfl rfl
    refine jb_cons (js_if ?_)
    refine jt_notin c ?_
    refine je_tup ?_
    refine ja_cons ?_
    refine je_name 1 rfl rfl ?_
    refine ja_cons ?_
    refine je_name 2 rfl rfl ?_
    refine ja_nil ?_
    refine ⟨by walk_at "lens", ?_⟩
    refine je_fld ?_
    refine je_name 0 rfl rfl ?_
    refine ⟨_, _, _, by first | exact .ins _ _ | exact .obj (by first | assumption | exact updM_same | exact hμ _ _ (by assumption)), T.cl_Book, T.na_Book_rows, bkF_rows .., ?_⟩
    refine d_notinE encV (by decide) (x := (t, c_)) (xs := vs) rfl rfl ?_
    refine ⟨_, rfl, ?_⟩
    refine ⟨fun h1 => ?_, fun h1 => ?_⟩
    ·
      refine jb_cons (js_raise c T.x_NoVisit ?_)
      exact hk1 (by simpa using h1)
    refine jb_nil ?_
    have hm : (t, c_) ∈ vs := by simpa using h1
    have hil := List.idxOf_lt_length_of_mem hm
    refine jb_cons (js_set 3 c rfl ?_)
    refine je_bm PySem.F.plainAttrs_list PySem.F.slot_list_index PySem.F.type_list_index (mt_indexD (by have := c.room.un; omega)) ?_
    refine je_fld ?_
    refine je_name 0 rfl rfl ?_
    refine ⟨_, _, _, by first | exact .ins _ _ | exact .obj (by first | assumption | exact updM_same | exact hμ _ _ (by assumption)), T.cl_Book, T.na_Book_rows, bkF_rows .., ?_⟩
    refine ⟨DTy.lst (.lst _), ?_⟩
    refine ja_cons ?_
    refine je_tup ?_
    refine ja_cons ?_
    refine je_name 1 rfl rfl ?_
    refine ja_cons ?_
    refine je_name 2 rfl rfl ?_
    refine ja_nil ?_
    refine ⟨by walk_at "lens", ?_⟩
    refine ja_nil ?_
    refine d_indexE encV (by decide) (x := (t, c_)) (xs := vs) (j := vs.idxOf (t, c_)) (.lst _) (idx_get hm) (fun m z h1 h2 => idx_ne h1 h2) rfl ?_
    refine jb_cons (js_fld ?_)
    refine je_add ?_
    refine je_slice ?_
    refine je_fld ?_
    refine je_name 0 rfl rfl ?_
    refine ⟨_, _, _, by first | exact .ins _ _ | exact .obj (by first | assumption | exact updM_same | exact hμ _ _ (by assumption)), T.cl_Book, T.na_Book_rows, bkF_rows .., ?_⟩
    refine je_name 3 rfl rfl ?_
    refine ⟨_, rfl, ?_⟩
    refine ⟨_, by constructor, ?_⟩
    try rw [cutD_map]
    refine je_slice ?_
    refine je_fld ?_
    refine je_name 0 rfl rfl ?_
    refine ⟨_, _, _, by first | exact .ins _ _ | exact .obj (by first | assumption | exact updM_same | exact hμ _ _ (by assumption)), T.cl_Book, T.na_Book_rows, bkF_rows .., ?_⟩
    refine je_add ?_
    refine je_name 3 rfl rfl ?_
    refine je_int ?_
    first | refine d_addI ?_ | refine d_addL (by constructor) (by constructor) (by walk_at "lens") ?_ | refine d_addS (by walk_at "lens") ?_ | refine d_addT (by walk_at "lens") ?_
    refine ⟨_, rfl, ?_⟩
    refine ⟨_, by constructor, ?_⟩
    try rw [cutD_map]
    rw [cutG_take (by omega), cutG_drop1 (by omega)]
    refine d_addL (.lst _) (.lst _) (by rw [List.length_map, List.length_map, List.length_take, List.length_drop, sizeLine_eq]; omega) ?_
    rw [← List.map_append]
    refine je_name 0 rfl rfl ?_
    refine ⟨_, _, _, rfl, by first | assumption | exact updM_same | exact (updM_ne (ne_ofM updM_same ha_)).trans updM_same, T.cl_Book, T.na_Book_rows, by walk_at "fl", ?_⟩
    rw [bk_rows]
    exact jb_nil (hk2 hm)
theorem sc_Book_change : FnScope ["self", "k", "bound", "found", "stretch"] ["self", "k", "bound"] (defScope s_Book_change) := ⟨rfl, rfl, rfl, by decide +kernel, rfl, by decide +kernel, by decide +kernel⟩
theorem ok_Book_change {f : Addr} {fd : FuncData} (F : Fun K "change" "Book.change" s_Book_change f fd) (T : Txt K mg A) (F_need_bounds : DCal Pg w K mg base 1 "need_bounds" (S_need_bounds A) []) (F_broken : DCal Pg w K mg base 3 "broken" (S_broken A) []) (F_is_whole : DCal Pg w K mg base 1 "is_whole" (S_is_whole A) []) (F_Broken : DExI Pg w K mg base 1 "Broken" A.CBK (sp2 "k" "stretch" A.CBK)) : FnOk Pg w K mg base (L2.CX Pg w) 4 f fd ["self", "k", "bound"] (toSp K (S_Book_change A)) := by
  refine fn_data F sc_Book_change (fun ds μ kd ke h => ?_) (fun cdv A_ outer s H E c ow ds μ kd ke h => ?_)
  · obtain ⟨b, xs, bs, vs, dk, d, vk, vb, rfl, B, tk, tb, hke1, hke2, hk⟩ := h; rfl
  · obtain ⟨b, xs, bs, vs, dk, d, vk, vb, rfl, B, tk, tb, hke1, hke2, hk⟩ := h
    have hg : μ b = some (.ins A.CBO (bkF xs vs)) := B.at_
    have hvl := B.vlen
    have hxl := B.bds.length
    have hbl := B.len
    refine jb_cons (js_if ?_)
    refine jt_not ?_
    refine jt_val ?_
    refine je_call c F_is_whole (by decide) ?_
    refine ja_cons ?_
    refine je_name 1 rfl rfl ?_
    refine ja_cons ?_
    refine je_int ?_
    refine ja_cons ?_
    refine je_sub ?_
    refine je_cB call_lenA T.m_len PySem.boot_len ?_
    refine ja_cons ?_
    refine je_fld ?_
    refine je_name 0 rfl rfl ?_
    refine ⟨_, _, _, by first | exact .ins _ _ | exact .obj (by first | assumption | exact updM_same | exact hμ _ _ (by assumption)), T.cl_Book, T.na_Book_limits, bkF_limits .., ?_⟩
    refine ja_nil ?_
    refine d_lenL (.lst _) ?_
    rw [hxl]
    refine je_int ?_
    refine d_subI ?_
    refine ja_nil ?_
    refine ⟨dk, vk, 0, _, rfl, tk, ?_⟩
    refine ⟨_, rfl, ?_⟩
    refine ⟨fun h1 => ?_, fun h1 => ?_⟩
    ·
      refine jb_cons (js_raise c T.x_NoPlace ?_)
      exact hke1 (by simpa using h1)
    refine jb_nil ?_
    have gk : goodB vk 0 (bs.length - 1) = true := by simpa using h1
    refine jb_cons (js_expr ?_)
    refine je_call c F_need_bounds (by decide) ?_
    refine ja_cons ?_
    refine (je_lst ?_ : _)
    refine ja_cons ?_
    refine je_name 2 rfl rfl ?_
    refine ja_nil ?_
    refine ⟨by walk_at "lens", ?_⟩
    refine ja_cons ?_
    refine je_int ?_
    refine ja_nil ?_
    refine ⟨_, [d], [vb], _, rfl, .lst _, .cons tb .nil, by rw [sizeLine_eq]; simp, fun gb => ?_, fun gb => hke2 gk (by cases vb with | none => rfl | some z => exact absurd gb (by simp [goodBs]))⟩
    obtain ⟨bd, rfl⟩ : ∃ bd, vb = some bd := by
      cases vb with
      | none => exact absurd gb (by simp [goodBs])
      | some z => exact ⟨z, rfl⟩
    obtain ⟨k0, rfl, hk0, hk1⟩ := goodB_some gk
    obtain rfl := tk.num
    obtain ⟨k1, rfl⟩ : ∃ k1 : Nat, k0 = (k1 : Int) := ⟨k0.toNat, by omega⟩
    have hbd : BdD A μ d bd ∧ bd.ok := by cases tb with | bd _ _ h ok => exact ⟨h, ok⟩
    obtain ⟨hbd, hbok⟩ := hbd
    obtain ⟨hka, hkb⟩ := hk k1 bd rfl (by omega) rfl
    refine jb_cons (js_set 3 c rfl ?_)
    refine je_add ?_
    refine je_add ?_
    refine je_slice ?_
    refine je_fld ?_
    refine je_name 0 rfl rfl ?_
    refine ⟨_, _, _, by first | exact .ins _ _ | exact .obj (by first | assumption | exact updM_same | exact hμ _ _ (by assumption)), T.cl_Book, T.na_Book_limits, bkF_limits .., ?_⟩
    refine je_name 1 rfl rfl ?_
    refine ⟨_, rfl, ?_⟩
    refine ⟨_, by constructor, ?_⟩
    try rw [cutD_map]
    refine (je_lst ?_ : _)
    refine ja_cons ?_
    refine je_name 2 rfl rfl ?_
    refine ja_nil ?_
    refine ⟨by walk_at "lens", ?_⟩
    rw [cutD_take (by omega)]
    refine d_addL (.lst _) (.lst _) (by rw [List.length_take, sizeLine_eq]; simp only [List.length_cons, List.length_nil]; omega) ?_
    refine je_slice ?_
    refine je_fld ?_
    refine je_name 0 rfl rfl ?_
    refine ⟨_, _, _, by first | exact .ins _ _ | exact .obj (by first | assumption | exact updM_same | exact hμ _ _ (by assumption)), T.cl_Book, T.na_Book_limits, bkF_limits .., ?_⟩
    refine je_add ?_
    refine je_name 1 rfl rfl ?_
    refine je_int ?_
    first | refine d_addI ?_ | refine d_addL (by constructor) (by constructor) (by walk_at "lens") ?_ | refine d_addS (by walk_at "lens") ?_ | refine d_addT (by walk_at "lens") ?_
    refine ⟨_, rfl, ?_⟩
    refine ⟨_, by constructor, ?_⟩
    try rw [cutD_map]
    rw [cutD_drop1 (by omega)]
    refine d_addL (.lst _) (.lst _) (by rw [List.length_append, List.length_take, List.length_drop, sizeLine_eq]; simp only [List.length_cons, List.length_nil]; omega) ?_
    rcases hbr : brokenF bd vs with _ | p
    ·
      
      refine jb_cons (js_set 4 c rfl ?_)
      refine je_call c F_broken (by decide) ?_
      refine ja_cons ?_
      refine je_name 2 rfl rfl ?_
      refine ja_cons ?_
      refine je_fld ?_
      refine je_name 0 rfl rfl ?_
      refine ⟨_, _, _, by first | exact .ins _ _ | exact .obj (by first | assumption | exact updM_same | exact hμ _ _ (by assumption)), T.cl_Book, T.na_Book_rows, bkF_rows .., ?_⟩
      refine ja_nil ?_
      refine ⟨bd, d, vs, rfl, hbd, hbok, by omega, ?_⟩
      rw [hbr]
      refine jb_cons (js_if ?_)
      refine jt_isnot ?_
      refine je_name 4 rfl rfl ?_
      refine je_non ?_
      refine d_isnotN ?_
      refine ⟨_, rfl, ?_⟩
      refine ⟨fun h2 => absurd h2 (by decide), fun h2 => ?_⟩
      refine jb_nil ?_
      refine jb_cons (js_fld ?_)
      refine je_name 3 rfl rfl ?_
      refine je_name 0 rfl rfl ?_
      refine ⟨_, _, _, rfl, by first | assumption | exact updM_same | exact (updM_ne (ne_ofM updM_same ha_)).trans updM_same, T.cl_Book, T.na_Book_limits, by walk_at "fl", ?_⟩
      rw [bk_limits]
      exact jb_nil (hkb hbr)
    ·
      
      refine jb_cons (js_set 4 c rfl ?_)
      refine je_call c F_broken (by decide) ?_
      refine ja_cons ?_
      refine je_name 2 rfl rfl ?_
      refine ja_cons ?_
      refine je_fld ?_
      refine je_name 0 rfl rfl ?_
      refine ⟨_, _, _, by first | exact .ins _ _ | exact .obj (by first | assumption | exact updM_same | exact hμ _ _ (by assumption)), T.cl_Book, T.na_Book_rows, bkF_rows .., ?_⟩
      refine ja_nil ?_
      refine ⟨bd, d, vs, rfl, hbd, hbok, by omega, ?_⟩
      rw [hbr]
      refine jb_cons (js_if ?_)
      refine jt_isnot ?_
      refine je_name 4 rfl rfl ?_
      refine je_non ?_
      refine d_isnotN ?_
      refine ⟨_, rfl, ?_⟩
      refine ⟨fun h2 => ?_, fun h2 => absurd (show true = false from h2) (by decide)⟩
      refine jb_cons (js_raiseI2 c F_Broken (by decide) ?_)
      refine je_name 1 rfl rfl ?_
      refine je_name 4 rfl rfl ?_
      exact hka p hbr
theorem sc_Book_next_try : FnScope ["self", "moment", "cost", "found", "visits", "bound", "stretch", "later"] ["self", "moment", "cost"] (defScope s_Book_next_try) := ⟨rfl, rfl, rfl, by decide +kernel, rfl, by decide +kernel, by decide +kernel⟩
theorem ok_Book_next_try {f : Addr} {fd : FuncData} (F : Fun K "next_try" "Book.next_try" s_Book_next_try f fd) (T : Txt K mg A) (F_with_visit : DCal Pg w K mg base 1 "with_visit" (S_with_visit A) []) (F_broken_all : DCal Pg w K mg base 2 "broken_all" (S_broken_all A) []) (F_behind : DCal Pg w K mg base 2 "behind" (S_behind A) []) (M_Jar_room : DMet Pg w K mg base 1 A.CJ "room" (S_Jar_room A) []) (M_Window_room : DMet Pg w K mg base 1 A.CW "room" (S_Window_room A) []) : FnOk Pg w K mg base (L2.CX Pg w) 3 f fd ["self", "moment", "cost"] (toSp K (S_Book_next_try A)) := by
  refine fn_data F sc_Book_next_try (fun ds μ kd ke h => ?_) (fun cdv A_ outer s H E c ow ds μ kd ke h => ?_)
  · obtain ⟨b, xs, bs, vs, t, c_, rfl, B, hk⟩ := h; rfl
  · obtain ⟨b, xs, bs, vs, t, c_, rfl, B, hk⟩ := h
    have hg : μ b = some (.ins A.CBO (bkF xs vs)) := B.at_
    have hvl := B.vlen
    refine jb_cons (js_set 3 c rfl ?_)
    refine je_name 1 rfl rfl ?_
    refine jb_cons (js_set 4 c rfl ?_)
    refine je_call c F_with_visit (by decide) ?_
    refine ja_cons ?_
    refine je_fld ?_
    refine je_name 0 rfl rfl ?_
    refine ⟨_, _, _, by first | exact .ins _ _ | exact .obj (by first | assumption | exact updM_same | exact hμ _ _ (by assumption)), T.cl_Book, T.na_Book_rows, bkF_rows .., ?_⟩
    refine ja_cons ?_
    refine je_name 1 rfl rfl ?_
    refine ja_cons ?_
    refine je_name 2 rfl rfl ?_
    refine ja_nil ?_
    refine ⟨vs, t, c_, rfl, by omega, ?_⟩
    refine jb_cons (js_forT 5 c.calm ow (pg_name (i := 5) c.nd rfl (by first | exact Or.inl rfl | exact Or.inr rfl)) ?_)
    refine ji_seq ?_
    refine je_fld ?_
    refine je_name 0 rfl rfl ?_
    refine ⟨_, _, _, by first | exact .ins _ _ | exact .obj (by first | assumption | exact updM_same | exact hμ _ _ (by assumption)), T.cl_Book, T.na_Book_limits, bkF_limits .., ?_⟩
    refine ⟨_, by walk_at "sq", ?_⟩
    refine ⟨fun j e μ' => μ = μ' ∧ ∃ f, e = [some (.obj b), some (.int t), some (.int c_), some (.int f), some (.lst ((withV vs t c_).map encV.dv)), none, none, none] ∧ nextTry bs vs t c_ = tryB vs t c_ f (bs.drop j), ?_, fun _ _ _ _ => .lst _, fun j x e μ' hx iv => ?_, fun e μ' iv n' hle => ?_⟩
    · exact ⟨_, LeE.refl _, rfl, t, rfl, rfl⟩
    ·
      obtain ⟨rfl, f, rfl, hf⟩ := iv
      obtain ⟨bd, hbj, hbd⟩ := B.bds.get (show xs[j]? = some x from hx)
      have okb := B.ok bd (List.mem_of_getElem? hbj)
      rw [drop_get hbj] at hf
      refine jb_cons (js_if ?_)
      refine jt_gt ?_
      refine je_name 2 rfl rfl ?_
      refine je_room c M_Jar_room M_Window_room (by decide) bd okb ?_
      refine je_name 5 rfl rfl ?_
      refine ⟨hbd, ?_⟩
      refine ja_cons ?_
      refine je_int ?_
      refine ja_cons ?_
      refine je_int ?_
      refine ja_nil ?_
      refine ⟨0, 0, rfl, hbd, ?_⟩
      rw [room0 okb]
      refine d_cmpI ?_
      refine ⟨_, rfl, ?_⟩
      refine ⟨fun h1 => ?_, fun h1 => ?_⟩
      ·
        refine jb_cons (js_ret ?_)
        refine je_non ?_
        rw [hf, tryB_big (of_decide_eq_true h1)] at hk
        exact hk
      refine jb_nil ?_
      refine jb_cons (js_forT 6 c.calm ow (pg_name (i := 6) c.nd rfl (by first | exact Or.inl rfl | exact Or.inr rfl)) ?_)
      refine ji_seq ?_
      refine je_call c F_broken_all (by decide) ?_
      refine ja_cons ?_
      refine je_name 5 rfl rfl ?_
      refine ja_cons ?_
      refine je_name 4 rfl rfl ?_
      refine ja_nil ?_
      refine ⟨bd, x, withV vs t c_, rfl, hbd, okb, by rw [withV_len]; omega, ?_⟩
      refine ⟨_, by walk_at "sq", ?_⟩
      refine ⟨fun i e μ2 => μ = μ2 ∧ ∃ g, e = [some (.obj b), some (.int t), some (.int c_), some (.int g), some (.lst ((withV vs t c_).map encV.dv)), some x, none, none] ∧ tryS bd vs t c_ f (brokenAll bd (withV vs t c_)) = tryS bd vs t c_ g ((brokenAll bd (withV vs t c_)).drop i), ?_, fun _ _ _ _ => .lst _, fun i y e μ2 hy iv => ?_, fun e μ2 iv n' hle => ?_⟩
      · exact ⟨_, LeE.refl _, rfl, f, rfl, rfl⟩
      ·
        obtain ⟨rfl, g, rfl, hg2⟩ := iv
        obtain ⟨p, hp, rfl⟩ := map_item (f := encV.dv) hy
        have hpm := List.mem_of_getElem? hp
        rw [drop_get hp] at hg2
        rcases hbh : behindV bd vs t c_ p with _ | l
        ·
          
          refine jb_cons (js_set 7 c rfl ?_)
          refine je_call c F_behind (by decide) ?_
          refine ja_cons ?_
          refine je_name 5 rfl rfl ?_
          refine ja_cons ?_
          refine je_fld ?_
          refine je_name 0 rfl rfl ?_
          refine ⟨_, _, _, by first | exact .ins _ _ | exact .obj (by first | assumption | exact updM_same | exact hμ _ _ (by assumption)), T.cl_Book, T.na_Book_rows, bkF_rows .., ?_⟩
          refine ja_cons ?_
          refine je_name 1 rfl rfl ?_
          refine ja_cons ?_
          refine je_name 2 rfl rfl ?_
          refine ja_cons ?_
          refine je_name 6 rfl rfl ?_
          refine ja_nil ?_
          refine ⟨x, bd, vs, t, c_, p, rfl, hbd, okb, by omega, fun hl => later_visit hpm hl, ?_⟩
          rw [hbh]
          refine jb_cons (js_if ?_)
          refine jt_is ?_
          refine je_name 7 rfl rfl ?_
          refine je_non ?_
          refine d_isN ?_
          refine ⟨_, rfl, ?_⟩
          refine ⟨fun h2 => ?_, fun h2 => absurd h2 (by decide)⟩
          refine jb_cons (js_ret ?_)
          refine je_non ?_
          rw [hf, tryB_none (of_decide_eq_false h1) (hg2.trans (tryS_none hbh))] at hk
          exact hk
        ·
          
          refine jb_cons (js_set 7 c rfl ?_)
          refine je_call c F_behind (by decide) ?_
          refine ja_cons ?_
          refine je_name 5 rfl rfl ?_
          refine ja_cons ?_
          refine je_fld ?_
          refine je_name 0 rfl rfl ?_
          refine ⟨_, _, _, by first | exact .ins _ _ | exact .obj (by first | assumption | exact updM_same | exact hμ _ _ (by assumption)), T.cl_Book, T.na_Book_rows, bkF_rows .., ?_⟩
          refine ja_cons ?_
          refine je_name 1 rfl rfl ?_
          refine ja_cons ?_
          refine je_name 2 rfl rfl ?_
          refine ja_cons ?_
          refine je_name 6 rfl rfl ?_
          refine ja_nil ?_
          refine ⟨x, bd, vs, t, c_, p, rfl, hbd, okb, by omega, fun hl => later_visit hpm hl, ?_⟩
          rw [hbh]
          refine jb_cons (js_if ?_)
          refine jt_is ?_
          refine je_name 7 rfl rfl ?_
          refine je_non ?_
          refine d_isN ?_
          refine ⟨_, rfl, ?_⟩
          refine ⟨fun h2 => absurd (show false = true from h2) (by decide), fun h2 => ?_⟩
          refine jb_nil ?_
          refine jb_cons (js_set 3 c rfl ?_)
          refine je_cB (call_max2 c.calm) T.m_max PyProof.Rows.boot_max ?_
          refine ja_cons ?_
          refine je_name 3 rfl rfl ?_
          refine ja_cons ?_
          refine je_name 7 rfl rfl ?_
          refine ja_nil ?_
          refine d_max2 ?_
          refine jb_nil ?_
          refine ⟨_, ?_, rfl, max g l, rfl, hg2.trans (tryS_some hbh)⟩
          walk_at "le"
      obtain ⟨rfl, g, rfl, hg2⟩ := iv
      refine JB.le ?_ hle
      rw [show (Src.seq (.lst ((brokenAll bd (withV vs t c_)).map encV.dv)) ((brokenAll bd (withV vs t c_)).map encV.dv)).items.length = (brokenAll bd (withV vs t c_)).length from List.length_map .., List.drop_length] at hg2
      refine jb_nil ?_
      refine ⟨_, ?_, rfl, g, rfl, hf.trans (tryB_some (of_decide_eq_false h1) hg2)⟩
      walk_at "le"
    obtain ⟨rfl, f, rfl, hf⟩ := iv
    refine JB.le ?_ hle
    rw [show (Src.seq (.lst xs) xs).items.length = bs.length from B.bds.length, List.drop_length] at hf
    refine jb_cons (js_ret ?_)
    refine je_name 3 rfl rfl ?_
    rw [hf] at hk
    exact hk
theorem sc_Book_earliest : FnScope ["self", "moment", "cost", "found"] ["self", "moment", "cost"] (defScope s_Book_earliest) := ⟨rfl, rfl, rfl, by decide +kernel, rfl, by decide +kernel, by decide +kernel⟩
theorem ok_Book_earliest {f : Addr} {fd : FuncData} (F : Fun K "earliest" "Book.earliest" s_Book_earliest f fd) (T : Txt K mg A) (F_need_moment : DCal Pg w K mg base 2 "need_moment" (S_need_moment A) []) (F_need_cost : DCal Pg w K mg base 2 "need_cost" (S_need_cost A) []) (M_Book_next_try : DMet Pg w K mg base 3 A.CBO "next_try" (S_Book_next_try A) []) : FnOk Pg w K mg base (L2.CX Pg w) 4 f fd ["self", "moment", "cost"] (toSp K (S_Book_earliest A)) := by
  refine fn_data F sc_Book_earliest (fun ds μ kd ke h => ?_) (fun cdv A_ outer s H E c ow ds μ kd ke h => ?_)
  · obtain ⟨b, xs, bs, vs, dt, dc, vt, vc, rfl, B, tt, tc, hke1, hke2, hk⟩ := h; rfl
  · obtain ⟨b, xs, bs, vs, dt, dc, vt, vc, rfl, B, tt, tc, hke1, hke2, hk⟩ := h
    refine jb_cons (js_expr ?_)
    refine je_call c F_need_moment (by decide) ?_
    refine ja_cons ?_
    refine je_name 1 rfl rfl ?_
    refine ja_nil ?_
    refine ⟨_, _, rfl, tt, fun gM => ?_, fun gM => hke1 gM⟩
    refine jb_cons (js_expr ?_)
    refine je_call c F_need_cost (by decide) ?_
    refine ja_cons ?_
    refine je_name 2 rfl rfl ?_
    refine ja_nil ?_
    refine ⟨_, _, rfl, tc, fun gC => ?_, fun gC => hke2 gM gC⟩
    obtain ⟨t, rfl, _, _⟩ := goodB_some gM
    obtain ⟨c_, rfl, _, _⟩ := goodB_some gC
    obtain rfl := tt.num
    obtain rfl := tc.num
    have hg : μ b = some (.ins A.CBO (bkF xs vs)) := B.at_
    have hvl := B.vlen
    obtain ⟨n, r, hE, hk⟩ := hk t c_ gM gC rfl rfl
    refine jb_cons (js_while ow (fun m e μ' => μ = μ' ∧ ∃ (t1 : Int) (o : Option Dv), e = [some (.obj b), some (.int t1), some (.int c_), o] ∧ EarN bs vs c_ m t1 r) n ?_ ?_)
    · exact ⟨rfl, t, _, rfl, hE⟩
    intro m n' μ' iv
    obtain ⟨rfl, t1, o, rfl, hE⟩ := iv
    refine jt_val ?_
    refine je_bl ?_
    refine ⟨_, rfl, ?_⟩
    refine ⟨fun h1 => ?_, fun h1 => ?_⟩
    ·
      have h3 : (nextTry bs vs t1 c_ = none ∧ r = none) ∨ (nextTry bs vs t1 c_ = some t1 ∧ r = some t1) ∨ (∃ m0 t', m = m0 + 1 ∧ nextTry bs vs t1 c_ = some t' ∧ t' ≠ t1 ∧ EarN bs vs c_ m0 t' r) := by
        cases m with
        | zero => exact hE.elim .inl (fun z => .inr (.inl z))
        | succ m0 =>
          obtain ⟨t', a, b', c'⟩ := hE
          exact .inr (.inr ⟨m0, t', rfl, a, b', c'⟩)
      rcases h3 with ⟨hn, rfl⟩ | ⟨hn, rfl⟩ | ⟨m0, t', rfl, hn, hne, hE2⟩
      ·
        
        refine jb_cons (js_set 3 c rfl ?_)
        refine je_meth c ?_
        refine je_name 0 rfl rfl ?_
        refine ⟨_, _, _, _, _, .obj B.at_, bkF_no _ _ (by decide +kernel) (by decide +kernel), M_Book_next_try, by decide, ?_⟩
        refine ja_cons ?_
        refine je_name 1 rfl rfl ?_
        refine ja_cons ?_
        refine je_name 2 rfl rfl ?_
        refine ja_nil ?_
        refine ⟨b, xs, bs, vs, t1, c_, rfl, B, ?_⟩
        rw [hn]
        refine jb_cons (js_if ?_)
        refine jt_w ?_
        refine jw_or ?_
        refine jt_is ?_
        refine je_name 3 rfl rfl ?_
        refine je_non ?_
        refine d_isN ?_
        refine ⟨_, rfl, ?_⟩
        refine ⟨fun _ => ?_, fun z => absurd z (by decide +kernel)⟩
        refine ⟨fun h2 => ?_, fun h2 => absurd h2 (by decide)⟩
        refine jb_cons (js_ret ?_)
        refine je_name 3 rfl rfl ?_
        exact hk
      ·
        
        refine jb_cons (js_set 3 c rfl ?_)
        refine je_meth c ?_
        refine je_name 0 rfl rfl ?_
        refine ⟨_, _, _, _, _, .obj B.at_, bkF_no _ _ (by decide +kernel) (by decide +kernel), M_Book_next_try, by decide, ?_⟩
        refine ja_cons ?_
        refine je_name 1 rfl rfl ?_
        refine ja_cons ?_
        refine je_name 2 rfl rfl ?_
        refine ja_nil ?_
        refine ⟨b, xs, bs, vs, t1, c_, rfl, B, ?_⟩
        rw [hn]
        refine jb_cons (js_if ?_)
        refine jt_w ?_
        apply jw_orP
        ·
          refine jt_is ?_
          refine je_name 3 rfl rfl ?_
          refine je_non ?_
          refine d_isN ?_
          refine ⟨_, rfl, ?_⟩
          exact ⟨rfl, rfl⟩
        ·
          intro h2
          refine jw_or1 ?_
          refine jt_eq c ?_
          refine je_name 3 rfl rfl ?_
          refine je_name 1 rfl rfl ?_
          first | refine d_eqI ?_ | refine d_eqS ?_ | refine d_eqB ?_ | refine d_eqNI ?_
          refine ⟨_, rfl, ?_⟩
          exact ⟨rfl, rfl⟩
        refine ⟨fun h3 => ?_, fun h3 => absurd h3 (by simp)⟩
        refine jb_cons (js_ret ?_)
        refine je_name 3 rfl rfl ?_
        exact hk
      ·
        
        refine jb_cons (js_set 3 c rfl ?_)
        refine je_meth c ?_
        refine je_name 0 rfl rfl ?_
        refine ⟨_, _, _, _, _, .obj B.at_, bkF_no _ _ (by decide +kernel) (by decide +kernel), M_Book_next_try, by decide, ?_⟩
        refine ja_cons ?_
        refine je_name 1 rfl rfl ?_
        refine ja_cons ?_
        refine je_name 2 rfl rfl ?_
        refine ja_nil ?_
        refine ⟨b, xs, bs, vs, t1, c_, rfl, B, ?_⟩
        rw [hn]
        refine jb_cons (js_if ?_)
        refine jt_w ?_
        apply jw_orP
        ·
          refine jt_is ?_
          refine je_name 3 rfl rfl ?_
          refine je_non ?_
          refine d_isN ?_
          refine ⟨_, rfl, ?_⟩
          exact ⟨rfl, rfl⟩
        ·
          intro h2
          refine jw_or1 ?_
          refine jt_eq c ?_
          refine je_name 3 rfl rfl ?_
          refine je_name 1 rfl rfl ?_
          first | refine d_eqI ?_ | refine d_eqS ?_ | refine d_eqB ?_ | refine d_eqNI ?_
          refine ⟨_, rfl, ?_⟩
          exact ⟨rfl, rfl⟩
        refine ⟨fun h3 => absurd h3 (by simp [hne, isNonD, opI]), fun h3 => ?_⟩
        refine jb_nil ?_
        refine jb_cons (js_set 1 c rfl ?_)
        refine je_name 3 rfl rfl ?_
        refine jb_nil ?_
        exact ⟨m0, by omega, rfl, t', _, rfl, hE2⟩
    exact absurd h1 (by decide)
    
theorem sc__law_cell : FnScope ["_law_script", "_law_k", "_law_cell_here", "_law_more"] ["_law_script", "_law_k"] (defScope s__law_cell) := ⟨rfl, rfl, rfl, by decide +kernel, rfl, by decide +kernel, by decide +kernel⟩
theorem ok__law_cell {f : Addr} {fd : FuncData} (F : Fun K "_law_cell" "_law_cell" s__law_cell f fd) (T : Txt K mg A) : FnOk Pg w K mg base (L2.CX Pg w) 1 f fd ["_law_script", "_law_k"] (toSp K (S__law_cell A)) := by
  refine fn_data F sc__law_cell (fun ds μ kd ke h => ?_) (fun cdv A_ outer s H E c ow ds μ kd ke h => ?_)
  · obtain ⟨ns, _law_k, rfl, hns, hk⟩ := h; rfl
  · obtain ⟨ns, _law_k, rfl, hns, hk⟩ := h
    refine jb_cons (js_set 2 c rfl ?_)
    refine je_add ?_
    refine je_mul ?_
    refine je_int ?_
    refine je_name 1 rfl rfl ?_
    first | refine d_mulI (by walk_at "cm") ?_ | refine d_mulL1 (by constructor) (by omega) ?_
    refine je_int ?_
    first | refine d_addI ?_ | refine d_addL (by constructor) (by constructor) (by walk_at "lens") ?_ | refine d_addS (by walk_at "lens") ?_ | refine d_addT (by walk_at "lens") ?_
    refine jb_cons (js_if ?_)
    refine jt_ne c ?_
    refine je_name 0 rfl rfl ?_
    refine (je_lst ?_ : _)
    refine ja_nil ?_
    refine ⟨by walk_at "lens", ?_⟩
    first | refine d_neI ?_ | refine d_neNil Enc.int (by decide) _ (.inr rfl) ?_ | refine d_neNil encV (by decide) _ (.inl rfl) ?_ | refine d_neS ?_ | refine d_neB ?_ | refine d_neNI ?_
    refine ⟨_, rfl, ?_⟩
    refine ⟨fun h1 => ?_, fun h1 => ?_⟩
    · have hne : ¬ ns = [] := by simpa using h1
      have hpos : 0 < ns.length := List.length_pos_iff.mpr hne
      refine jb_cons (js_set 2 c rfl ?_)
      refine je_add ?_
      refine je_add ?_
      refine je_name 2 rfl rfl ?_
      refine je_mul ?_
      refine je_ix ?_
      refine je_name 0 rfl rfl ?_
      refine je_mod ?_
      refine je_name 1 rfl rfl ?_
      refine je_cB call_lenA T.m_len PySem.boot_len ?_
      refine ja_cons ?_
      refine je_name 0 rfl rfl ?_
      refine ja_nil ?_
      first | refine d_lenM (by walk_at "sq") ?_ | refine d_lenL (by walk_at "sq") ?_ | refine d_lenT ?_ | refine d_lenS (by walk_at "lens") ?_
      refine d_modI (by first | decide | omega) ?_
      refine d_ixInts ns (.fro _) (Int.emod_nonneg _ (by omega)) (Int.emod_lt_of_pos _ (by omega)) ?_
      refine je_int ?_
      first | refine d_mulI (by walk_at "cm") ?_ | refine d_mulL1 (by constructor) (by omega) ?_
      first | refine d_addI ?_ | refine d_addL (by constructor) (by constructor) (by walk_at "lens") ?_ | refine d_addS (by walk_at "lens") ?_ | refine d_addT (by walk_at "lens") ?_
      refine je_mul ?_
      refine je_int ?_
      refine je_name 1 rfl rfl ?_
      first | refine d_mulI (by walk_at "cm") ?_ | refine d_mulL1 (by constructor) (by omega) ?_
      first | refine d_addI ?_ | refine d_addL (by constructor) (by constructor) (by walk_at "lens") ?_ | refine d_addS (by walk_at "lens") ?_ | refine d_addT (by walk_at "lens") ?_
      refine jb_cons (js_set 2 c rfl ?_)
      refine je_add ?_
      refine je_name 2 rfl rfl ?_
      refine je_mul ?_
      refine je_fdiv ?_
      refine je_name 1 rfl rfl ?_
      refine je_cB call_lenA T.m_len PySem.boot_len ?_
      refine ja_cons ?_
      refine je_name 0 rfl rfl ?_
      refine ja_nil ?_
      first | refine d_lenM (by walk_at "sq") ?_ | refine d_lenL (by walk_at "sq") ?_ | refine d_lenT ?_ | refine d_lenS (by walk_at "lens") ?_
      refine d_fdivI (by walk_at "cd") ?_
      refine je_int ?_
      first | refine d_mulI (by walk_at "cm") ?_ | refine d_mulL1 (by constructor) (by omega) ?_
      first | refine d_addI ?_ | refine d_addL (by constructor) (by constructor) (by walk_at "lens") ?_ | refine d_addS (by walk_at "lens") ?_ | refine d_addT (by walk_at "lens") ?_
      refine jb_nil ?_
      refine jb_cons (js_set 3 c rfl ?_)
      refine je_mod ?_
      refine je_name 2 rfl rfl ?_
      refine je_int ?_
      refine d_modI (by first | decide | omega) ?_
      refine jb_cons (js_set 3 c rfl ?_)
      refine je_mod ?_
      refine je_mul ?_
      refine je_name 3 rfl rfl ?_
      refine je_name 3 rfl rfl ?_
      first | refine d_mulI (by walk_at "cm") ?_ | refine d_mulL1 (by constructor) (by omega) ?_
      refine je_int ?_
      refine d_modI (by first | decide | omega) ?_
      refine jb_cons (js_ret ?_)
      refine je_mod ?_
      refine je_add ?_
      refine je_add ?_
      refine je_mul ?_
      refine je_name 3 rfl rfl ?_
      refine je_name 3 rfl rfl ?_
      first | refine d_mulI (by walk_at "cm") ?_ | refine d_mulL1 (by constructor) (by omega) ?_
      refine je_mul ?_
      refine je_int ?_
      refine je_name 3 rfl rfl ?_
      first | refine d_mulI (by walk_at "cm") ?_ | refine d_mulL1 (by constructor) (by omega) ?_
      first | refine d_addI ?_ | refine d_addL (by constructor) (by constructor) (by walk_at "lens") ?_ | refine d_addS (by walk_at "lens") ?_ | refine d_addT (by walk_at "lens") ?_
      refine je_name 1 rfl rfl ?_
      first | refine d_addI ?_ | refine d_addL (by constructor) (by constructor) (by walk_at "lens") ?_ | refine d_addS (by walk_at "lens") ?_ | refine d_addT (by walk_at "lens") ?_
      refine je_int ?_
      refine d_modI (by first | decide | omega) ?_
      rw [cell_ne hne] at hk; exact hk
    have hne : ns = [] := by simpa using h1
    refine jb_nil ?_
    refine jb_cons (js_set 3 c rfl ?_)
    refine je_mod ?_
    refine je_name 2 rfl rfl ?_
    refine je_int ?_
    refine d_modI (by first | decide | omega) ?_
    refine jb_cons (js_set 3 c rfl ?_)
    refine je_mod ?_
    refine je_mul ?_
    refine je_name 3 rfl rfl ?_
    refine je_name 3 rfl rfl ?_
    first | refine d_mulI (by walk_at "cm") ?_ | refine d_mulL1 (by constructor) (by omega) ?_
    refine je_int ?_
    refine d_modI (by first | decide | omega) ?_
    refine jb_cons (js_ret ?_)
    refine je_mod ?_
    refine je_add ?_
    refine je_add ?_
    refine je_mul ?_
    refine je_name 3 rfl rfl ?_
    refine je_name 3 rfl rfl ?_
    first | refine d_mulI (by walk_at "cm") ?_ | refine d_mulL1 (by constructor) (by omega) ?_
    refine je_mul ?_
    refine je_int ?_
    refine je_name 3 rfl rfl ?_
    first | refine d_mulI (by walk_at "cm") ?_ | refine d_mulL1 (by constructor) (by omega) ?_
    first | refine d_addI ?_ | refine d_addL (by constructor) (by constructor) (by walk_at "lens") ?_ | refine d_addS (by walk_at "lens") ?_ | refine d_addT (by walk_at "lens") ?_
    refine je_name 1 rfl rfl ?_
    first | refine d_addI ?_ | refine d_addL (by constructor) (by constructor) (by walk_at "lens") ?_ | refine d_addS (by walk_at "lens") ?_ | refine d_addT (by walk_at "lens") ?_
    refine je_int ?_
    refine d_modI (by first | decide | omega) ?_
    rw [cell_nil hne] at hk; exact hk
theorem sc__law_bound : FnScope ["_law_cell_here", "_law_scale_here", "_law_flow"] ["_law_cell_here", "_law_scale_here"] (defScope s__law_bound) := ⟨rfl, rfl, rfl, by decide +kernel, rfl, by decide +kernel, by decide +kernel⟩
theorem ok__law_bound {f : Addr} {fd : FuncData} (F : Fun K "_law_bound" "_law_bound" s__law_bound f fd) (T : Txt K mg A) : FnOk Pg w K mg base (L2.CX Pg w) 1 f fd ["_law_cell_here", "_law_scale_here"] (toSp K (S__law_bound A)) := by
  refine fn_data F sc__law_bound (fun ds μ kd ke h => ?_) (fun cdv A_ outer s H E c ow ds μ kd ke h => ?_)
  · obtain ⟨_law_cell_here, _law_scale_here, rfl, h0, h1_, h2_, hk⟩ := h; rfl
  · obtain ⟨_law_cell_here, _law_scale_here, rfl, h0, h1_, h2_, hk⟩ := h
    have q1 : 0 ≤ ([1, _law_scale_here] : List Int).getD (_law_cell_here / 12 % 2).toNat 0 ∧ ([1, _law_scale_here] : List Int).getD (_law_cell_here / 12 % 2).toNat 0 ≤ 40000000 := getD_all (P := fun x => 0 ≤ x ∧ x ≤ 40000000) (by intro x hx; simp only [List.mem_cons, List.not_mem_nil, or_false] at hx; rcases hx with rfl | rfl <;> omega) (by simp; omega)
    have q2 : 1 ≤ ([6, 40] : List Int).getD (_law_cell_here / 3200 % 2).toNat 0 ∧ ([6, 40] : List Int).getD (_law_cell_here / 3200 % 2).toNat 0 ≤ 40 := getD_all (P := fun x => 1 ≤ x ∧ x ≤ 40) (by decide) (by simp; omega)
    refine jb_cons (js_if ?_)
    refine jt_eq c ?_
    refine je_mod ?_
    refine je_name 0 rfl rfl ?_
    refine je_int ?_
    refine d_modI (by first | decide | omega) ?_
    refine je_int ?_
    first | refine d_eqI ?_ | refine d_eqS ?_ | refine d_eqB ?_ | refine d_eqNI ?_
    refine ⟨_, rfl, ?_⟩
    refine ⟨fun h1 => ?_, fun h1 => ?_⟩
    ·
      refine jb_cons (js_set 2 c rfl ?_)
      refine je_mul ?_
      refine je_ix ?_
      refine (je_lst ?_ : _)
      refine ja_cons ?_
      refine je_int ?_
      refine ja_cons ?_
      refine je_int ?_
      refine ja_cons ?_
      refine je_int ?_
      refine ja_cons ?_
      refine je_int ?_
      refine ja_cons ?_
      refine je_int ?_
      refine ja_cons ?_
      refine je_int ?_
      refine ja_nil ?_
      refine ⟨by walk_at "lens", ?_⟩
      refine je_mod ?_
      refine je_fdiv ?_
      refine je_name 0 rfl rfl ?_
      refine je_int ?_
      refine d_fdivI (by walk_at "cd") ?_
      refine je_int ?_
      refine d_modI (by first | decide | omega) ?_
      refine d_ixInts [0, 1, 2, 3, 1, 2] (.lst _) (by walk_at "ix") (by walk_at "ix") ?_
      refine je_ix ?_
      refine (je_lst ?_ : _)
      refine ja_cons ?_
      refine je_int ?_
      refine ja_cons ?_
      refine je_name 1 rfl rfl ?_
      refine ja_nil ?_
      refine ⟨by walk_at "lens", ?_⟩
      refine je_mod ?_
      refine je_fdiv ?_
      refine je_name 0 rfl rfl ?_
      refine je_int ?_
      refine d_fdivI (by walk_at "cd") ?_
      refine je_int ?_
      refine d_modI (by first | decide | omega) ?_
      refine d_ixInts [1, _law_scale_here] (.lst _) (by walk_at "ix") (by walk_at "ix") ?_
      first | refine d_mulI (by walk_at "cm") ?_ | refine d_mulL1 (by constructor) (by omega) ?_
      refine jb_cons (js_ret ?_)
      refine je_tup ?_
      refine ja_cons ?_
      refine je_str ?_
      refine ja_cons ?_
      refine je_mul ?_
      refine je_add ?_
      refine je_int ?_
      refine je_mod ?_
      refine je_fdiv ?_
      refine je_name 0 rfl rfl ?_
      refine je_int ?_
      refine d_fdivI (by walk_at "cd") ?_
      refine je_int ?_
      refine d_modI (by first | decide | omega) ?_
      first | refine d_addI ?_ | refine d_addL (by constructor) (by constructor) (by walk_at "lens") ?_ | refine d_addS (by walk_at "lens") ?_ | refine d_addT (by walk_at "lens") ?_
      refine je_name 1 rfl rfl ?_
      first | refine d_mulI (by walk_at "cm") ?_ | refine d_mulL1 (by constructor) (by omega) ?_
      refine ja_cons ?_
      refine je_cB (call_min2 c.calm) T.m_min PyProof.Rows.boot_min ?_
      refine ja_cons ?_
      refine je_name 2 rfl rfl ?_
      refine ja_cons ?_
      refine je_pow ?_
      refine je_int ?_
      refine je_int ?_
      refine d_powE (v := 1000000000) ⟨by decide, by decide, by decide⟩ rfl ?_
      refine ja_nil ?_
      refine d_min2 ?_
      refine ja_nil ?_
      refine ⟨by walk_at "lens", ?_⟩
      rw [show m_law_bound _law_cell_here _law_scale_here = _ from if_pos (of_decide_eq_true h1)] at hk; exact hk
    refine jb_nil ?_
    refine jb_cons (js_ret ?_)
    refine je_tup ?_
    refine ja_cons ?_
    refine je_str ?_
    refine ja_cons ?_
    refine je_add ?_
    refine je_mul ?_
    refine je_add ?_
    refine je_int ?_
    refine je_mod ?_
    refine je_fdiv ?_
    refine je_name 0 rfl rfl ?_
    refine je_int ?_
    refine d_fdivI (by walk_at "cd") ?_
    refine je_int ?_
    refine d_modI (by first | decide | omega) ?_
    first | refine d_addI ?_ | refine d_addL (by constructor) (by constructor) (by walk_at "lens") ?_ | refine d_addS (by walk_at "lens") ?_ | refine d_addT (by walk_at "lens") ?_
    refine je_name 1 rfl rfl ?_
    first | refine d_mulI (by walk_at "cm") ?_ | refine d_mulL1 (by constructor) (by omega) ?_
    refine je_mod ?_
    refine je_fdiv ?_
    refine je_name 0 rfl rfl ?_
    refine je_int ?_
    refine d_fdivI (by walk_at "cd") ?_
    refine je_int ?_
    refine d_modI (by first | decide | omega) ?_
    first | refine d_addI ?_ | refine d_addL (by constructor) (by constructor) (by walk_at "lens") ?_ | refine d_addS (by walk_at "lens") ?_ | refine d_addT (by walk_at "lens") ?_
    refine ja_cons ?_
    refine je_add ?_
    refine je_int ?_
    refine je_mod ?_
    refine je_fdiv ?_
    refine je_name 0 rfl rfl ?_
    refine je_int ?_
    refine d_fdivI (by walk_at "cd") ?_
    refine je_ix ?_
    refine (je_lst ?_ : _)
    refine ja_cons ?_
    refine je_int ?_
    refine ja_cons ?_
    refine je_int ?_
    refine ja_nil ?_
    refine ⟨by walk_at "lens", ?_⟩
    refine je_mod ?_
    refine je_fdiv ?_
    refine je_name 0 rfl rfl ?_
    refine je_int ?_
    refine d_fdivI (by walk_at "cd") ?_
    refine je_int ?_
    refine d_modI (by first | decide | omega) ?_
    refine d_ixInts [6, 40] (.lst _) (by walk_at "ix") (by walk_at "ix") ?_
    refine d_modI (by first | decide | omega) ?_
    first | refine d_addI ?_ | refine d_addL (by constructor) (by constructor) (by walk_at "lens") ?_ | refine d_addS (by walk_at "lens") ?_ | refine d_addT (by walk_at "lens") ?_
    refine ja_nil ?_
    refine ⟨by walk_at "lens", ?_⟩
    rw [show m_law_bound _law_cell_here _law_scale_here = _ from if_neg (of_decide_eq_false h1)] at hk; exact hk
theorem sc__law_made : FnScope ["_law_bound_here"] ["_law_bound_here"] (defScope s__law_made) := ⟨rfl, rfl, rfl, by decide +kernel, rfl, by decide +kernel, by decide +kernel⟩
theorem ok__law_made {f : Addr} {fd : FuncData} (F : Fun K "_law_made" "_law_made" s__law_made f fd) (T : Txt K mg A) (F_Window : DMak Pg w K mg base 2 "Window" A.CW (S_Window_init A) []) (F_Jar : DMak Pg w K mg base 2 "Jar" A.CJ (S_Jar_init A) []) : FnOk Pg w K mg base (L2.CX Pg w) 4 f fd ["_law_bound_here"] (toSp K (S__law_made A)) := by
  refine fn_data F sc__law_made (fun ds μ kd ke h => ?_) (fun cdv A_ outer s H E c ow ds μ kd ke h => ?_)
  · obtain ⟨b, rfl, ok, hk⟩ := h; rfl
  · obtain ⟨b, rfl, ok, hk⟩ := h
    rcases b with ⟨bs, bf⟩ | ⟨bs, bf⟩
    ·
      skip
      refine jb_cons (js_if ?_)
      refine jt_eq c ?_
      refine je_ix ?_
      refine je_name 0 rfl rfl ?_
      refine je_int ?_
      first | refine d_ixT rfl ?_ | refine d_ixB0 ?_
      refine je_str ?_
      first | refine d_eqI ?_ | refine d_eqS ?_ | refine d_eqB ?_ | refine d_eqNI ?_
      refine ⟨_, rfl, ?_⟩
      refine ⟨fun h1 => ?_, fun h1 => absurd h1 (by decide +kernel)⟩
      refine jb_cons (js_ret ?_)
      refine je_make c F_Jar (by decide) ?_
      refine ja_cons ?_
      refine je_ix ?_
      refine je_name 0 rfl rfl ?_
      refine je_int ?_
      first | refine d_ixT rfl ?_ | refine d_ixB1 ?_
      refine ja_cons ?_
      refine je_ix ?_
      refine je_name 0 rfl rfl ?_
      refine je_int ?_
      first | refine d_ixT rfl ?_ | refine d_ixB2 ?_
      refine ja_nil ?_
      refine fun a_ ha_ => ⟨_, _, _, rfl, updM_same, ok, rfl, .inl ?_⟩
      rw [updM_updM]
      exact hk a_ ha_
      
    ·
      skip
      refine jb_cons (js_if ?_)
      refine jt_eq c ?_
      refine je_ix ?_
      refine je_name 0 rfl rfl ?_
      refine je_int ?_
      first | refine d_ixT rfl ?_ | refine d_ixB0 ?_
      refine je_str ?_
      first | refine d_eqI ?_ | refine d_eqS ?_ | refine d_eqB ?_ | refine d_eqNI ?_
      refine ⟨_, rfl, ?_⟩
      refine ⟨fun h1 => absurd h1 (by decide +kernel), fun h1 => ?_⟩
      refine jb_nil ?_
      refine jb_cons (js_ret ?_)
      refine je_make c F_Window (by decide) ?_
      refine ja_cons ?_
      refine je_ix ?_
      refine je_name 0 rfl rfl ?_
      refine je_int ?_
      first | refine d_ixT rfl ?_ | refine d_ixB1 ?_
      refine ja_cons ?_
      refine je_ix ?_
      refine je_name 0 rfl rfl ?_
      refine je_int ?_
      first | refine d_ixT rfl ?_ | refine d_ixB2 ?_
      refine ja_nil ?_
      refine fun a_ ha_ => ⟨_, _, _, rfl, updM_same, ok, rfl, .inl ?_⟩
      rw [updM_updM]
      exact hk a_ ha_
      
theorem sc__law_room : FnScope ["_law_bound_here", "_law_first_here", "_law_last"] ["_law_bound_here", "_law_first_here", "_law_last"] (defScope s__law_room) := ⟨rfl, rfl, rfl, by decide +kernel, rfl, by decide +kernel, by decide +kernel⟩
theorem ok__law_room {f : Addr} {fd : FuncData} (F : Fun K "_law_room" "_law_room" s__law_room f fd) (T : Txt K mg A) : FnOk Pg w K mg base (L2.CX Pg w) 1 f fd ["_law_bound_here", "_law_first_here", "_law_last"] (toSp K (S__law_room A)) := by
  refine fn_data F sc__law_room (fun ds μ kd ke h => ?_) (fun cdv A_ outer s H E c ow ds μ kd ke h => ?_)
  · obtain ⟨b, _law_first_here, _law_last, rfl, ok, hk⟩ := h; rfl
  · obtain ⟨b, _law_first_here, _law_last, rfl, ok, hk⟩ := h
    rcases b with ⟨bs, bf⟩ | ⟨bs, bf⟩
    ·
      obtain ⟨_, o3, o4⟩ := ok
      refine jb_cons (js_if ?_)
      refine jt_eq c ?_
      refine je_ix ?_
      refine je_name 0 rfl rfl ?_
      refine je_int ?_
      first | refine d_ixT rfl ?_ | refine d_ixB0 ?_
      refine je_str ?_
      first | refine d_eqI ?_ | refine d_eqS ?_ | refine d_eqB ?_ | refine d_eqNI ?_
      refine ⟨_, rfl, ?_⟩
      refine ⟨fun h1 => ?_, fun h1 => absurd h1 (by decide +kernel)⟩
      refine jb_cons (js_ret ?_)
      refine je_add ?_
      refine je_ix ?_
      refine je_name 0 rfl rfl ?_
      refine je_int ?_
      first | refine d_ixT rfl ?_ | refine d_ixB1 ?_
      refine je_mul ?_
      refine je_ix ?_
      refine je_name 0 rfl rfl ?_
      refine je_int ?_
      first | refine d_ixT rfl ?_ | refine d_ixB2 ?_
      refine je_sub ?_
      refine je_name 2 rfl rfl ?_
      refine je_name 1 rfl rfl ?_
      refine d_subI ?_
      first | refine d_mulI (by walk_at "cm") ?_ | refine d_mulL1 (by constructor) (by omega) ?_
      first | refine d_addI ?_ | refine d_addL (by constructor) (by constructor) (by walk_at "lens") ?_ | refine d_addS (by walk_at "lens") ?_ | refine d_addT (by walk_at "lens") ?_
      exact hk
    ·
      skip
      refine jb_cons (js_if ?_)
      refine jt_eq c ?_
      refine je_ix ?_
      refine je_name 0 rfl rfl ?_
      refine je_int ?_
      first | refine d_ixT rfl ?_ | refine d_ixB0 ?_
      refine je_str ?_
      first | refine d_eqI ?_ | refine d_eqS ?_ | refine d_eqB ?_ | refine d_eqNI ?_
      refine ⟨_, rfl, ?_⟩
      refine ⟨fun h1 => absurd h1 (by decide +kernel), fun h1 => ?_⟩
      refine jb_nil ?_
      refine jb_cons (js_if ?_)
      refine jt_lt ?_
      refine je_sub ?_
      refine je_name 2 rfl rfl ?_
      refine je_name 1 rfl rfl ?_
      refine d_subI ?_
      refine je_ix ?_
      refine je_name 0 rfl rfl ?_
      refine je_int ?_
      first | refine d_ixT rfl ?_ | refine d_ixB2 ?_
      refine d_cmpI ?_
      refine ⟨_, rfl, ?_⟩
      refine ⟨fun h2 => ?_, fun h2 => ?_⟩
      ·
        refine jb_cons (js_ret ?_)
        refine je_ix ?_
        refine je_name 0 rfl rfl ?_
        refine je_int ?_
        first | refine d_ixT rfl ?_ | refine d_ixB1 ?_
        rw [show (Bd.win bs bf).room _law_first_here _law_last = some bs from if_pos (of_decide_eq_true h2)] at hk; exact hk
      refine jb_nil ?_
      refine jb_cons (js_ret ?_)
      refine je_non ?_
      rw [show (Bd.win bs bf).room _law_first_here _law_last = none from if_neg (of_decide_eq_false h2)] at hk; exact hk
theorem sc__law_first : FnScope ["_law_bound_here", "_law_visits", "_law_at", "_law_used", "_law_end", "_law_last", "_law_room_here"] ["_law_bound_here", "_law_visits"] (defScope s__law_first) := ⟨rfl, rfl, rfl, by decide +kernel, rfl, by decide +kernel, by decide +kernel⟩
theorem ok__law_first {f : Addr} {fd : FuncData} (F : Fun K "_law_first" "_law_first" s__law_first f fd) (T : Txt K mg A) (F__law_room : DCal Pg w K mg base 1 "_law_room" (S__law_room A) []) : FnOk Pg w K mg base (L2.CX Pg w) 2 f fd ["_law_bound_here", "_law_visits"] (toSp K (S__law_first A)) := by
  refine fn_data F sc__law_first (fun ds μ kd ke h => ?_) (fun cdv A_ outer s H E c ow ds μ kd ke h => ?_)
  · obtain ⟨b, vs, rfl, ok, hz, hk⟩ := h; rfl
  · obtain ⟨b, vs, rfl, ok, hz, hk⟩ := h
    refine jb_cons (js_forT 2 c.calm ow (pg_name (i := 2) c.nd rfl (by first | exact Or.inl rfl | exact Or.inr rfl)) ?_)
    refine ji_range1 T.m_range ?_
    refine ja_cons ?_
    refine je_cB call_lenA T.m_len PySem.boot_len ?_
    refine ja_cons ?_
    refine je_name 1 rfl rfl ?_
    refine ja_nil ?_
    first | refine d_lenM (by walk_at "sq") ?_ | refine d_lenL (by walk_at "sq") ?_ | refine d_lenT ?_ | refine d_lenS (by walk_at "lens") ?_
    refine ja_nil ?_
    refine ⟨_, rfl, by omega, by omega, ?_⟩
    refine ⟨fun j e μ' => (e = [some b.tv, some (.lst (vs.map encV.dv)), none, none, none, none, none] ∧ ∀ a, a < j → firstE b vs a (vs.length - a) = none) ∧ μ = μ', ?_, fun _ _ _ _ => trivial, fun j x e μ' hx iv => ?_, fun e μ' iv n' hle => ?_⟩
    · refine ⟨_, ?_, ⟨rfl, fun a ha => absurd ha (Nat.not_lt_zero _)⟩, rfl⟩; walk_at "le"
    ·
      obtain ⟨⟨rfl, hp⟩, rfl⟩ := iv
      obtain ⟨rfl, hj⟩ := rng_item0 hx
      have hj : j < vs.length := by omega
      refine jb_cons (js_set 3 c rfl ?_)
      refine je_int ?_
      refine jb_cons (js_forT 4 c.calm ow (pg_name (i := 4) c.nd rfl (by first | exact Or.inl rfl | exact Or.inr rfl)) ?_)
      refine ji_range2 T.m_range ?_
      refine ja_cons ?_
      refine je_name 2 rfl rfl ?_
      refine ja_cons ?_
      refine je_cB call_lenA T.m_len PySem.boot_len ?_
      refine ja_cons ?_
      refine je_name 1 rfl rfl ?_
      refine ja_nil ?_
      first | refine d_lenM (by walk_at "sq") ?_ | refine d_lenL (by walk_at "sq") ?_ | refine d_lenT ?_ | refine d_lenS (by walk_at "lens") ?_
      refine ja_nil ?_
      refine ⟨_, _, rfl, by omega, ?_⟩
      refine ⟨fun i e μ' => (e = [some b.tv, some (.lst (vs.map encV.dv)), some (.int (j : Int)), some (.int (usedL vs j i)), none, none, none] ∧ firstE b vs j i = none) ∧ μ = μ', ?_, fun _ _ _ _ => trivial, fun i x e μ' hx iv => ?_, fun e μ' iv n' hle => ?_⟩
      · refine ⟨_, ?_, ⟨rfl, rfl⟩, rfl⟩; walk_at "le"
      ·
        obtain ⟨⟨rfl, hn⟩, rfl⟩ := iv
        obtain ⟨rfl, hi⟩ := rng_item hx
        have hji : j + i < vs.length := by omega
        refine jb_cons (js_set 3 c rfl ?_)
        refine je_add ?_
        refine je_name 3 rfl rfl ?_
        refine je_ix ?_
        refine je_ix ?_
        refine je_name 1 rfl rfl ?_
        refine je_name 4 rfl rfl ?_
        refine d_ixV (j + i) (by omega) (by omega) ?_
        refine je_int ?_
        first | refine d_ixT rfl ?_ | refine d_ixB1 ?_
        first | refine d_addI ?_ | refine d_addL (by constructor) (by constructor) (by walk_at "lens") ?_ | refine d_addS (by walk_at "lens") ?_ | refine d_addT (by walk_at "lens") ?_
        refine jb_cons (js_set 5 c rfl ?_)
        refine je_to (.bl (isLast vs (j + i))) ?_ ?_
        ·
          refine je_or ?_
          refine je_eq c ?_
          refine je_add ?_
          refine je_name 4 rfl rfl ?_
          refine je_int ?_
          first | refine d_addI ?_ | refine d_addL (by constructor) (by constructor) (by walk_at "lens") ?_ | refine d_addS (by walk_at "lens") ?_ | refine d_addT (by walk_at "lens") ?_
          refine je_cB call_lenA T.m_len PySem.boot_len ?_
          refine ja_cons ?_
          refine je_name 1 rfl rfl ?_
          refine ja_nil ?_
          first | refine d_lenM (by walk_at "sq") ?_ | refine d_lenL (by walk_at "sq") ?_ | refine d_lenT ?_ | refine d_lenS (by walk_at "lens") ?_
          first | refine d_eqI ?_ | refine d_eqS ?_ | refine d_eqB ?_ | refine d_eqNI ?_
          refine ⟨_, rfl, fun h1 => ⟨by unfold isLast; rw [decide_eq_true (show j + i + 1 = vs.length by have := of_decide_eq_true h1; omega)]; rfl, rfl⟩, fun h1 => ?_⟩
          have h1 := of_decide_eq_false h1
          refine je_one ?_
          refine je_gt ?_
          refine je_ix ?_
          refine je_ix ?_
          refine je_name 1 rfl rfl ?_
          refine je_add ?_
          refine je_name 4 rfl rfl ?_
          refine je_int ?_
          first | refine d_addI ?_ | refine d_addL (by constructor) (by constructor) (by walk_at "lens") ?_ | refine d_addS (by walk_at "lens") ?_ | refine d_addT (by walk_at "lens") ?_
          refine d_ixV (j + i + 1) (by omega) (by omega) ?_
          refine je_int ?_
          first | refine d_ixT rfl ?_ | refine d_ixB0 ?_
          refine je_ix ?_
          refine je_ix ?_
          refine je_name 1 rfl rfl ?_
          refine je_name 4 rfl rfl ?_
          refine d_ixV (j + i) (by omega) (by omega) ?_
          refine je_int ?_
          first | refine d_ixT rfl ?_ | refine d_ixB0 ?_
          refine d_cmpI ?_
          exact ⟨by unfold isLast; rw [decide_eq_false (show ¬ j + i + 1 = vs.length by omega)]; rfl, rfl⟩
        refine jb_cons (js_set 6 c rfl ?_)
        refine je_call c F__law_room (by decide) ?_
        refine ja_cons ?_
        refine je_name 0 rfl rfl ?_
        refine ja_cons ?_
        refine je_ix ?_
        refine je_ix ?_
        refine je_name 1 rfl rfl ?_
        refine je_name 2 rfl rfl ?_
        refine d_ixV (j) (by omega) (by omega) ?_
        refine je_int ?_
        first | refine d_ixT rfl ?_ | refine d_ixB0 ?_
        refine ja_cons ?_
        refine je_ix ?_
        refine je_ix ?_
        refine je_name 1 rfl rfl ?_
        refine je_name 4 rfl rfl ?_
        refine d_ixV (j + i) (by omega) (by omega) ?_
        refine je_int ?_
        first | refine d_ixT rfl ?_ | refine d_ixB0 ?_
        refine ja_nil ?_
        refine ⟨_, _, _, rfl, ok, ?_⟩
        rcases hr : b.room (vAt vs j).1 (vAt vs (j + i)).1 with _ | r
        · refine jb_cons (js_if ?_)
          refine jt_w ?_
          refine jw_and ?_
          refine jt_val ?_
          refine je_name 5 rfl rfl ?_
          refine ⟨_, rfl, ?_⟩
          have hno : ¬ brk b vs j (j + i) = true := by unfold brk over; rw [hr]; simp
          refine ⟨fun _ => ?_, fun _ => ⟨fun z => (nomatch z), fun _ => ?_⟩⟩
          · refine jw_and ?_
            refine jt_isnot ?_
            refine je_name 6 rfl rfl ?_
            refine je_non ?_
            refine d_isnotN ?_
            refine ⟨_, rfl, ?_⟩
            refine ⟨fun z => absurd (show false = true from z) (by decide), fun _ => ⟨fun z => (nomatch z), fun _ => ?_⟩⟩
            refine jb_nil (jb_nil ?_)
            refine ⟨_, ?_, ⟨rfl, find_none_succ hn hno⟩, rfl⟩
            rw [usedL_succ hji]; walk_at "le"
          · refine jb_nil (jb_nil ?_)
            refine ⟨_, ?_, ⟨rfl, find_none_succ hn hno⟩, rfl⟩
            rw [usedL_succ hji]; walk_at "le"
        refine jb_cons (js_if ?_)
        refine jt_w ?_
        refine jw_and ?_
        refine jt_val ?_
        refine je_name 5 rfl rfl ?_
        refine ⟨_, rfl, ?_⟩
        refine ⟨fun h2 => ?_, fun h2 => ⟨fun z => (nomatch z), fun _ => ?_⟩⟩
        rotate_left
        · refine jb_nil (jb_nil ?_)
          refine ⟨_, ?_, ⟨rfl, find_none_succ hn (by unfold brk; rw [h2]; simp)⟩, rfl⟩
          rw [usedL_succ hji]; walk_at "le"
        refine jw_and ?_
        refine jt_isnot ?_
        refine je_name 6 rfl rfl ?_
        refine je_non ?_
        refine d_isnotN ?_
        refine ⟨_, rfl, ?_⟩
        refine ⟨fun h3 => ?_, fun h3 => absurd (show true = false from h3) (by decide)⟩
        refine jw_and1 ?_
        refine jt_gt ?_
        refine je_name 3 rfl rfl ?_
        refine je_name 6 rfl rfl ?_
        refine d_cmpI ?_
        refine ⟨_, rfl, ?_⟩
        refine ⟨fun h4 => ?_, fun h4 => ?_⟩
        ·
          refine jb_cons (js_ret ?_)
          refine je_tup ?_
          refine ja_cons ?_
          refine je_ix ?_
          refine je_ix ?_
          refine je_name 1 rfl rfl ?_
          refine je_name 2 rfl rfl ?_
          refine d_ixV (j) (by omega) (by omega) ?_
          refine je_int ?_
          first | refine d_ixT rfl ?_ | refine d_ixB0 ?_
          refine ja_cons ?_
          refine je_ix ?_
          refine je_ix ?_
          refine je_name 1 rfl rfl ?_
          refine je_name 4 rfl rfl ?_
          refine d_ixV (j + i) (by omega) (by omega) ?_
          refine je_int ?_
          first | refine d_ixT rfl ?_ | refine d_ixB0 ?_
          refine ja_nil ?_
          refine ⟨by walk_at "lens", ?_⟩
          have hb : brk b vs j (j + i) = true := by unfold brk over; rw [hr, h2]; unfold usedAE; rw [show j + i + 1 - j = i + 1 by omega, usedL_succ hji]; exact ‹decide _ = true›
          rw [lawFirst_hit hp (firstE_hit hn hb hji) hj] at hk
          exact hk
        refine jb_nil ?_
        refine jb_nil ?_
        refine ⟨_, ?_, ⟨rfl, find_none_succ hn (by unfold brk over usedAE; rw [hr, show j + i + 1 - j = i + 1 by omega, usedL_succ hji]; show ¬ (isLast vs (j + i) && decide (r < usedL vs j i + (vAt vs (j + i)).2)) = true; rw [‹decide _ = false›]; simp)⟩, rfl⟩
        rw [usedL_succ hji]; walk_at "le"
      obtain ⟨⟨rfl, hn⟩, rfl⟩ := iv
      refine JB.le ?_ hle
      refine jb_nil ?_
      rw [rng_len, show ((vs.length : Int) - (j : Int)).toNat = vs.length - j by omega] at hn
      refine ⟨_, ?_, ⟨rfl, fun a ha => ?_⟩, rfl⟩
      · walk_at "le"
      · by_cases z : a = j
        · rw [z]; exact hn
        · exact hp a (by omega)
    obtain ⟨⟨rfl, hp⟩, rfl⟩ := iv
    refine JB.le ?_ hle
    rw [rng_len, show ((vs.length : Int)).toNat = vs.length by omega] at hp
    refine jb_cons (js_ret ?_)
    refine je_non ?_
    rw [lawFirst_none hp] at hk; exact hk
theorem sc__law_breaks : FnScope ["_law_bounds", "_law_visits", "_law_k", "_law_stretch"] ["_law_bounds", "_law_visits"] (defScope s__law_breaks) := ⟨rfl, rfl, rfl, by decide +kernel, rfl, by decide +kernel, by decide +kernel⟩
theorem ok__law_breaks {f : Addr} {fd : FuncData} (F : Fun K "_law_breaks" "_law_breaks" s__law_breaks f fd) (T : Txt K mg A) (F__law_first : DCal Pg w K mg base 2 "_law_first" (S__law_first A) []) : FnOk Pg w K mg base (L2.CX Pg w) 3 f fd ["_law_bounds", "_law_visits"] (toSp K (S__law_breaks A)) := by
  refine fn_data F sc__law_breaks (fun ds μ kd ke h => ?_) (fun cdv A_ outer s H E c ow ds μ kd ke h => ?_)
  · obtain ⟨bs, vs, rfl, ok, hbl, hz, hp0, hk⟩ := h; rfl
  · obtain ⟨bs, vs, rfl, ok, hbl, hz, hp0, hk⟩ := h
    refine jb_cons (js_forT 2 c.calm ow (pg_name (i := 2) c.nd rfl (by first | exact Or.inl rfl | exact Or.inr rfl)) ?_)
    refine ji_range1 T.m_range ?_
    refine ja_cons ?_
    refine je_cB call_lenA T.m_len PySem.boot_len ?_
    refine ja_cons ?_
    refine je_name 0 rfl rfl ?_
    refine ja_nil ?_
    first | refine d_lenM (by walk_at "sq") ?_ | refine d_lenL (by walk_at "sq") ?_ | refine d_lenT ?_ | refine d_lenS (by walk_at "lens") ?_
    refine ja_nil ?_
    refine ⟨_, rfl, by omega, by omega, ?_⟩
    refine ⟨fun j e μ' => e = [some (.lst (bs.map Bd.tv)), some (.lst (vs.map encV.dv)), none, none] ∧ μ = μ' ∧ ∀ i c, i < j → bs[i]? = some c → brokenF c vs = none, ?_, fun _ _ _ _ => trivial, fun j x e μ' hx iv => ?_, fun e μ' iv n' hle => ?_⟩
    · exact ⟨_, LeE.refl _, rfl, rfl, fun i c2 hi => absurd hi (by omega)⟩
    ·
      obtain ⟨rfl, rfl, hp⟩ := iv
      obtain ⟨rfl, hj⟩ := rng_item0 hx
      replace hj : j < bs.length := by simpa using hj
      obtain ⟨b, hbj⟩ : ∃ b, bs[j]? = some b := ⟨_, List.getElem?_eq_getElem hj⟩
      have hbm := List.mem_of_getElem? hbj
      rcases hbr : brokenF b vs with _ | p
      ·
        
        refine jb_cons (js_set 3 c rfl ?_)
        refine je_call c F__law_first (by decide) ?_
        refine ja_cons ?_
        refine je_ix ?_
        refine je_name 0 rfl rfl ?_
        refine je_name 2 rfl rfl ?_
        refine d_ixMap Bd.tv bs (.jar 0 0) (.lst _) (by omega) (by omega) ?_
        rw [show ((j : Nat) : Int).toNat = j from rfl, show bs.getD j (.jar 0 0) = b by rw [List.getD_eq_getElem?_getD, hbj]; rfl]
        refine ja_cons ?_
        refine je_name 1 rfl rfl ?_
        refine ja_nil ?_
        refine ⟨b, vs, rfl, ok b hbm, hz, ?_⟩
        rw [first_eq hp0, hbr]
        refine jb_cons (js_if ?_)
        refine jt_isnot ?_
        refine je_name 3 rfl rfl ?_
        refine je_non ?_
        refine d_isnotN ?_
        refine ⟨_, rfl, ?_⟩
        refine ⟨fun h1 => absurd h1 (by decide), fun h1 => ?_⟩
        refine jb_nil ?_
        refine jb_nil ?_ --! turn   --#4
        refine ⟨_, ?_, rfl, rfl, fun i c2 hi hc => ?_⟩
        · walk_at "le"
        · by_cases z : i = j
          · subst z; rw [hbj] at hc; cases hc; exact hbr
          · exact hp i c2 (by omega) hc
      ·
        
        refine jb_cons (js_set 3 c rfl ?_)
        refine je_call c F__law_first (by decide) ?_
        refine ja_cons ?_
        refine je_ix ?_
        refine je_name 0 rfl rfl ?_
        refine je_name 2 rfl rfl ?_
        refine d_ixMap Bd.tv bs (.jar 0 0) (.lst _) (by omega) (by omega) ?_
        rw [show ((j : Nat) : Int).toNat = j from rfl, show bs.getD j (.jar 0 0) = b by rw [List.getD_eq_getElem?_getD, hbj]; rfl]
        refine ja_cons ?_
        refine je_name 1 rfl rfl ?_
        refine ja_nil ?_
        refine ⟨b, vs, rfl, ok b hbm, hz, ?_⟩
        rw [first_eq hp0, hbr]
        refine jb_cons (js_if ?_)
        refine jt_isnot ?_
        refine je_name 3 rfl rfl ?_
        refine je_non ?_
        refine d_isnotN ?_
        refine ⟨_, rfl, ?_⟩
        refine ⟨fun h1 => ?_, fun h1 => absurd (show true = false from h1) (by decide)⟩
        refine jb_cons (js_ret ?_)
        refine je_tup ?_
        refine ja_cons ?_
        refine je_name 2 rfl rfl ?_
        refine ja_cons ?_
        refine je_name 3 rfl rfl ?_
        refine ja_nil ?_
        refine ⟨by walk_at "lens", ?_⟩
        rw [brkOf_hit hbj hbr hp] at hk
        exact hk
    obtain ⟨rfl, rfl, hp⟩ := iv
    refine JB.le ?_ hle
    refine jb_cons (js_ret ?_)
    refine je_non ?_
    rw [brkOf_none fun b hbm => by
      obtain ⟨i, hi⟩ := List.getElem?_of_mem hbm
      exact hp i b (by rw [rng_len]; have := (List.getElem?_eq_some_iff.mp hi).1; simpa using this) hi] at hk
    exact hk
theorem sc__law_with : FnScope ["_law_visits", "_law_moment", "_law_cost_here", "_law_ahead", "_law_one"] ["_law_visits", "_law_moment", "_law_cost_here"] (defScope s__law_with) := ⟨rfl, rfl, rfl, by decide +kernel, rfl, by decide +kernel, by decide +kernel⟩
theorem ok__law_with {f : Addr} {fd : FuncData} (F : Fun K "_law_with" "_law_with" s__law_with f fd) (T : Txt K mg A) : FnOk Pg w K mg base (L2.CX Pg w) 1 f fd ["_law_visits", "_law_moment", "_law_cost_here"] (toSp K (S__law_with A)) := by
  refine fn_data F sc__law_with (fun ds μ kd ke h => ?_) (fun cdv A_ outer s H E c ow ds μ kd ke h => ?_)
  · obtain ⟨vs, t, c_, rfl, hl, hs, hk⟩ := h; rfl
  · obtain ⟨vs, t, c_, rfl, hl, hs, hk⟩ := h
    have hfl : (vs.filter fun p => decide (p.1 ≤ t)).length ≤ vs.length := List.length_filter_le _ _
    refine jb_cons (js_setLcG (x := "_law_one") 4 3 c.calm c.nd rfl rfl (sw_true rfl rfl rfl (by decide +kernel)) (blkOk_by (N := ["_law_visits", "_law_moment", "_law_cost_here", "_law_ahead", "_law_one"]) (sc := defScope s__law_with) (by decide +kernel)) (fun _ _ _ _ _ => pg_name (i := 4) c.nd rfl (Or.inl rfl)) ?_)
    refine ji_seq ?_
    refine je_name 0 rfl rfl ?_
    refine ⟨_, by walk_at "sq", ?_⟩
    refine lc_map encV.dv vs (fun p => if p.1 ≤ t then some (encV.dv p) else none) rfl (.lst _) (by rw [sizeLine_eq]; omega) (fun j x μ' hx hμ => ?_) ?_
    ·
      intro s1 H1 C1 cl1 fp1
      refine jt_le ?_
      refine je_ix ?_
      refine je_name 4 rfl rfl ?_
      refine je_int ?_
      first | refine d_ixT rfl ?_ | refine d_ixB0 ?_
      refine je_name 1 rfl rfl ?_
      refine d_cmpI ?_
      refine ⟨_, rfl, ?_⟩
      refine ⟨fun h1 s2 H2 C2 cl2 fp2 => ?_, fun h1 => ⟨(if_neg (of_decide_eq_false h1)).symm, rfl⟩⟩
      refine je_name 4 rfl rfl ?_
      exact ⟨(if_pos (of_decide_eq_true h1)).symm, rfl⟩
    rw [fm_if (fun p : Int × Int => p.1 ≤ t) encV.dv vs]
    refine jb_cons (js_ret ?_)
    refine je_add ?_
    refine je_add ?_
    refine je_name 3 rfl rfl ?_
    refine (je_lst ?_ : _)
    refine ja_cons ?_
    refine je_tup ?_
    refine ja_cons ?_
    refine je_name 1 rfl rfl ?_
    refine ja_cons ?_
    refine je_name 2 rfl rfl ?_
    refine ja_nil ?_
    refine ⟨by walk_at "lens", ?_⟩
    refine ja_nil ?_
    refine ⟨by walk_at "lens", ?_⟩
    refine d_addL (.lst _) (.lst _) (by rw [List.length_map, sizeLine_eq]; simp only [List.length_cons, List.length_nil]; omega) ?_
    refine je_slice ?_
    refine je_name 0 rfl rfl ?_
    refine je_cB call_lenA T.m_len PySem.boot_len ?_
    refine ja_cons ?_
    refine je_name 3 rfl rfl ?_
    refine ja_nil ?_
    refine d_lenL (.lst _) ?_
    rw [List.length_map]
    refine ⟨_, rfl, ?_⟩
    refine ⟨_, by constructor, ?_⟩
    try rw [cutD_map]
    rw [cutG_drop hfl]
    refine d_addL (.lst _) (.lst _) (by rw [List.length_append, List.length_map, List.length_map, List.length_drop, sizeLine_eq]; simp only [List.length_cons, List.length_nil]; omega) ?_
    rw [show [Dv.tup [.int t, .int c_]] = [(t, c_)].map encV.dv from rfl, ← List.map_append, ← List.map_append]
    rw [show vs.filter (fun p => decide (p.1 ≤ t)) ++ [(t, c_)] ++ vs.drop (vs.filter fun p => decide (p.1 ≤ t)).length = withV vs t c_ by unfold withV; rw [← srt_filter hs]]
    exact hk
theorem sc__law_cost : FnScope ["_law_cell_here", "_law_scale_here", "_law_many"] ["_law_cell_here", "_law_scale_here"] (defScope s__law_cost) := ⟨rfl, rfl, rfl, by decide +kernel, rfl, by decide +kernel, by decide +kernel⟩
theorem ok__law_cost {f : Addr} {fd : FuncData} (F : Fun K "_law_cost" "_law_cost" s__law_cost f fd) (T : Txt K mg A) : FnOk Pg w K mg base (L2.CX Pg w) 1 f fd ["_law_cell_here", "_law_scale_here"] (toSp K (S__law_cost A)) := by
  refine fn_data F sc__law_cost (fun ds μ kd ke h => ?_) (fun cdv A_ outer s H E c ow ds μ kd ke h => ?_)
  · obtain ⟨_law_cell_here, _law_scale_here, rfl, h0, h1, h2, hk⟩ := h; rfl
  · obtain ⟨_law_cell_here, _law_scale_here, rfl, h0, h1, h2, hk⟩ := h
    refine jb_cons (js_set 2 c rfl ?_)
    refine je_ix ?_
    refine (je_lst ?_ : _)
    refine ja_cons ?_
    refine je_add ?_
    refine je_int ?_
    refine je_mod ?_
    refine je_name 0 rfl rfl ?_
    refine je_int ?_
    refine d_modI (by first | decide | omega) ?_
    first | refine d_addI ?_ | refine d_addL (by constructor) (by constructor) (by walk_at "lens") ?_ | refine d_addS (by walk_at "lens") ?_ | refine d_addT (by walk_at "lens") ?_
    refine ja_cons ?_
    refine je_int ?_
    refine ja_cons ?_
    refine je_add ?_
    refine je_int ?_
    refine je_mod ?_
    refine je_fdiv ?_
    refine je_name 0 rfl rfl ?_
    refine je_int ?_
    refine d_fdivI (by walk_at "cd") ?_
    refine je_int ?_
    refine d_modI (by first | decide | omega) ?_
    first | refine d_addI ?_ | refine d_addL (by constructor) (by constructor) (by walk_at "lens") ?_ | refine d_addS (by walk_at "lens") ?_ | refine d_addT (by walk_at "lens") ?_
    refine ja_nil ?_
    refine ⟨by walk_at "lens", ?_⟩
    refine je_mod ?_
    refine je_fdiv ?_
    refine je_name 0 rfl rfl ?_
    refine je_int ?_
    refine d_fdivI (by walk_at "cd") ?_
    refine je_int ?_
    refine d_modI (by first | decide | omega) ?_
    refine d_ixInts [(1 + (_law_cell_here % 6)), 1, (1 + ((_law_cell_here / 3) % 20))] (.lst _) (by walk_at "ix") (by walk_at "ix") ?_
    refine jb_cons (js_ret ?_)
    refine je_cB (call_min2 c.calm) T.m_min PyProof.Rows.boot_min ?_
    refine ja_cons ?_
    refine je_pow ?_
    refine je_int ?_
    refine je_int ?_
    refine d_powE (v := 1000000000) ⟨by decide, by decide, by decide⟩ rfl ?_
    refine ja_cons ?_
    refine je_add ?_
    refine je_mul ?_
    refine je_name 2 rfl rfl ?_
    refine je_name 1 rfl rfl ?_
    first | refine d_mulI (by walk_at "cm") ?_ | refine d_mulL1 (by constructor) (by omega) ?_
    refine je_mul ?_
    refine je_mod ?_
    refine je_fdiv ?_
    refine je_name 0 rfl rfl ?_
    refine je_int ?_
    refine d_fdivI (by walk_at "cd") ?_
    refine je_int ?_
    refine d_modI (by first | decide | omega) ?_
    refine je_fdiv ?_
    refine je_name 1 rfl rfl ?_
    refine je_int ?_
    refine d_fdivI (by walk_at "cd") ?_
    first | refine d_mulI (by walk_at "cm") ?_ | refine d_mulL1 (by constructor) (by omega) ?_
    first | refine d_addI ?_ | refine d_addL (by constructor) (by constructor) (by walk_at "lens") ?_ | refine d_addS (by walk_at "lens") ?_ | refine d_addT (by walk_at "lens") ?_
    refine ja_nil ?_
    refine d_min2 ?_
    exact hk
theorem sc__law_scale : FnScope ["_law_cell_here"] ["_law_cell_here"] (defScope s__law_scale) := ⟨rfl, rfl, rfl, by decide +kernel, rfl, by decide +kernel, by decide +kernel⟩
theorem ok__law_scale {f : Addr} {fd : FuncData} (F : Fun K "_law_scale" "_law_scale" s__law_scale f fd) (T : Txt K mg A) : FnOk Pg w K mg base (L2.CX Pg w) 1 f fd ["_law_cell_here"] (toSp K (S__law_scale A)) := by
  refine fn_data F sc__law_scale (fun ds μ kd ke h => ?_) (fun cdv A_ outer s H E c ow ds μ kd ke h => ?_)
  · obtain ⟨_law_cell_here, rfl, hk⟩ := h; rfl
  · obtain ⟨_law_cell_here, rfl, hk⟩ := h
    refine jb_cons (js_ret ?_)
    refine je_ix ?_
    refine (je_lst ?_ : _)
    refine ja_cons ?_
    refine je_int ?_
    refine ja_cons ?_
    refine je_int ?_
    refine ja_cons ?_
    refine je_int ?_
    refine ja_cons ?_
    refine je_pow ?_
    refine je_int ?_
    refine je_int ?_
    refine d_powE (v := 1000000) ⟨by decide, by decide, by decide⟩ rfl ?_
    refine ja_cons ?_
    refine je_mul ?_
    refine je_int ?_
    refine je_pow ?_
    refine je_int ?_
    refine je_int ?_
    refine d_powE (v := 10000000) ⟨by decide, by decide, by decide⟩ rfl ?_
    first | refine d_mulI (by walk_at "cm") ?_ | refine d_mulL1 (by constructor) (by omega) ?_
    refine ja_nil ?_
    refine ⟨by walk_at "lens", ?_⟩
    refine je_mod ?_
    refine je_name 0 rfl rfl ?_
    refine je_int ?_
    refine d_modI (by first | decide | omega) ?_
    refine d_ixInts [1, 1, 1000, 1000000, (4 * 10000000)] (.lst _) (by walk_at "ix") (by walk_at "ix") ?_
    exact hk
theorem sc__law_begins : FnScope ["_law_bounds", "_law_visits", "_law_moment", "_law_cost_here", "_law_found", "_law_k", "_law_used", "_law_end", "_law_bound_here", "_law_one"] ["_law_bounds", "_law_visits", "_law_moment", "_law_cost_here"] (defScope s__law_begins) := ⟨rfl, rfl, rfl, by decide +kernel, rfl, by decide +kernel, by decide +kernel⟩
theorem ok__law_begins {f : Addr} {fd : FuncData} (F : Fun K "_law_begins" "_law_begins" s__law_begins f fd) (T : Txt K mg A) : FnOk Pg w K mg base (L2.CX Pg w) 1 f fd ["_law_bounds", "_law_visits", "_law_moment", "_law_cost_here"] (toSp K (S__law_begins A)) := by
  refine fn_data F sc__law_begins (fun ds μ kd ke h => ?_) (fun cdv A_ outer s H E c ow ds μ kd ke h => ?_)
  · obtain ⟨bs, vs, t, c_, rfl, ok, hbl, hvl, hk⟩ := h; rfl
  · obtain ⟨bs, vs, t, c_, rfl, ok, hbl, hvl, hk⟩ := h
    refine jb_cons (js_set 4 c rfl ?_)
    refine je_lstM ?_
    refine ja_cons ?_
    refine je_name 2 rfl rfl ?_
    refine ja_nil ?_
    refine ⟨by walk_at "lens", fun fa hfa => ?_⟩
    refine jb_cons (js_forT 5 c.calm ow (pg_name (i := 5) c.nd rfl (by first | exact Or.inl rfl | exact Or.inr rfl)) ?_)
    refine ji_range1 T.m_range ?_
    refine ja_cons ?_
    refine je_cB call_lenA T.m_len PySem.boot_len ?_
    refine ja_cons ?_
    refine je_name 1 rfl rfl ?_
    refine ja_nil ?_
    first | refine d_lenM (by walk_at "sq") ?_ | refine d_lenL (by walk_at "sq") ?_ | refine d_lenT ?_ | refine d_lenS (by walk_at "lens") ?_
    refine ja_nil ?_
    refine ⟨_, rfl, by omega, by omega, ?_⟩
    refine ⟨fun j e μ' => e = [some (.lst (bs.map Bd.tv)), some (.lst (vs.map encV.dv)), some (.int t), some (.int c_), some (.obj fa), none, none, none, none, none] ∧ μ' = updM μ fa (.lst (([t] ++ candT bs vs c_ j).map Dv.int)), ?_, fun _ _ _ _ => trivial, fun j x e μ' hx iv => ?_, fun e μ' iv n' hle => ?_⟩
    · exact ⟨_, LeE.refl _, rfl, rfl⟩
    ·
      obtain ⟨rfl, rfl⟩ := iv
      obtain ⟨rfl, hj⟩ := rng_item0 hx
      replace hj : j < vs.length := by omega
      have hlT := candT_len hbl hvl c_ j
      refine jb_cons (js_set 6 c rfl ?_)
      refine je_name 3 rfl rfl ?_
      refine jb_cons (js_expr ?_)
      refine je_append ?_
      refine je_name 4 rfl rfl ?_
      refine ⟨_, rfl, ⟨_, by first | assumption | exact updM_same | (rw [updM_ne (by assumption)]; assumption)⟩, ?_⟩
      refine je_add ?_
      refine je_ix ?_
      refine je_ix ?_
      refine je_name 1 rfl rfl ?_
      refine je_name 5 rfl rfl ?_
      refine d_ixV (j) (by omega) (by omega) ?_
      refine je_int ?_
      first | refine d_ixT rfl ?_ | refine d_ixB0 ?_
      refine je_int ?_
      first | refine d_addI ?_ | refine d_addL (by constructor) (by constructor) (by walk_at "lens") ?_ | refine d_addS (by walk_at "lens") ?_ | refine d_addT (by walk_at "lens") ?_
      refine ⟨_, by first | assumption | exact updM_same | (rw [updM_ne (by assumption)]; assumption), by walk_at "lens", ?_⟩
      refine jb_cons (js_forT 7 c.calm ow (pg_name (i := 7) c.nd rfl (by first | exact Or.inl rfl | exact Or.inr rfl)) ?_)
      refine ji_range2 T.m_range ?_
      refine ja_cons ?_
      refine je_name 5 rfl rfl ?_
      refine ja_cons ?_
      refine je_cB call_lenA T.m_len PySem.boot_len ?_
      refine ja_cons ?_
      refine je_name 1 rfl rfl ?_
      refine ja_nil ?_
      first | refine d_lenM (by walk_at "sq") ?_ | refine d_lenL (by walk_at "sq") ?_ | refine d_lenT ?_ | refine d_lenS (by walk_at "lens") ?_
      refine ja_nil ?_
      refine ⟨_, _, rfl, by omega, ?_⟩
      refine ⟨fun i e μ' => e = [some (.lst (bs.map Bd.tv)), some (.lst (vs.map encV.dv)), some (.int t), some (.int c_), some (.obj fa), some (.int (j : Int)), some (.int (c_ + usedL vs j i)), none, none, none] ∧ μ' = updM μ fa (.lst (([t] ++ candT bs vs c_ j ++ [(vAt vs j).1 + 1] ++ candE bs vs c_ j i).map Dv.int)), ?_, fun _ _ _ _ => trivial, fun i x e μ' hx iv => ?_, fun e μ' iv n' hle => ?_⟩
      · refine ⟨_, LeE.refl _, ?_, ?_⟩
        · rw [show c_ + usedL vs j 0 = c_ from Int.add_zero c_]; rfl
        · rw [app_int, show candE bs vs c_ j 0 = [] from rfl, List.append_nil]
      ·
        obtain ⟨rfl, rfl⟩ := iv
        obtain ⟨rfl, hi⟩ := rng_item hx
        have hji : j + i < vs.length := by omega
        have hlE := candE_len hbl vs c_ j i
        refine jb_cons (js_set 6 c rfl ?_)
        refine je_add ?_
        refine je_name 6 rfl rfl ?_
        refine je_ix ?_
        refine je_ix ?_
        refine je_name 1 rfl rfl ?_
        refine je_name 7 rfl rfl ?_
        refine d_ixV (j + i) (by omega) (by omega) ?_
        refine je_int ?_
        first | refine d_ixT rfl ?_ | refine d_ixB1 ?_
        first | refine d_addI ?_ | refine d_addL (by constructor) (by constructor) (by walk_at "lens") ?_ | refine d_addS (by walk_at "lens") ?_ | refine d_addT (by walk_at "lens") ?_
        rw [show c_ + usedL vs j i + (vAt vs (j + i)).2 = c_ + usedL vs j (i + 1) by rw [usedL_succ hji]; omega]
        refine jb_cons (js_forT 8 c.calm ow (pg_name (i := 8) c.nd rfl (by first | exact Or.inl rfl | exact Or.inr rfl)) ?_)
        refine ji_seq ?_
        refine je_name 0 rfl rfl ?_
        refine ⟨_, by walk_at "sq", ?_⟩
        refine ⟨fun m e μ' => e = [some (.lst (bs.map Bd.tv)), some (.lst (vs.map encV.dv)), some (.int t), some (.int c_), some (.obj fa), some (.int (j : Int)), some (.int (c_ + usedL vs j (i + 1))), some (.int ((j : Int) + (i : Int))), none, none] ∧ μ' = updM μ fa (.lst (([t] ++ candT bs vs c_ j ++ [(vAt vs j).1 + 1] ++ candE bs vs c_ j i ++ (bs.take m).flatMap (candB (vAt vs j).1 (c_ + usedL vs j (i + 1)))).map Dv.int)), ?_, fun _ _ _ _ => .lst _, fun m x e μ' hx iv => ?_, fun e μ' iv n' hle => ?_⟩
        · refine ⟨_, LeE.refl _, rfl, ?_⟩
          rw [List.take_zero, List.flatMap_nil, List.append_nil]
        ·
          obtain ⟨rfl, rfl⟩ := iv
          obtain ⟨b, hbm, rfl⟩ := map_item (f := Bd.tv) hx
          have okb := ok b (List.mem_of_getElem? hbm)
          have hlB : ((bs.take m).flatMap (candB (vAt vs j).1 (c_ + usedL vs j (i + 1)))).length ≤ 4 := by
            have h1 := flat_len (candB (vAt vs j).1 (c_ + usedL vs j (i + 1))) 1 (xs := bs.take m) fun b _ => candB_len _ _ b
            rw [List.length_take] at h1
            omega
          have hst : (bs.take (m + 1)).flatMap (candB (vAt vs j).1 (c_ + usedL vs j (i + 1))) = (bs.take m).flatMap (candB (vAt vs j).1 (c_ + usedL vs j (i + 1))) ++ candB (vAt vs j).1 (c_ + usedL vs j (i + 1)) b := by
            rw [take_succ_get hbm, List.flatMap_append]; simp
          rcases b with ⟨s, f⟩ | ⟨w, s⟩
          ·
            
            refine jb_cons (js_if ?_)
            refine jt_eq c ?_
            refine je_ix ?_
            refine je_name 8 rfl rfl ?_
            refine je_int ?_
            first | refine d_ixT rfl ?_ | refine d_ixB0 ?_
            refine je_str ?_
            first | refine d_eqI ?_ | refine d_eqS ?_ | refine d_eqB ?_ | refine d_eqNI ?_
            refine ⟨_, rfl, ?_⟩
            refine ⟨fun h1 => absurd h1 (by decide +kernel), fun h1 => ?_⟩
            obtain ⟨_, hf0, hf1⟩ := okb
            refine jb_cons (js_if ?_)
            refine jt_gt ?_
            refine je_ix ?_
            refine je_name 8 rfl rfl ?_
            refine je_int ?_
            first | refine d_ixT rfl ?_ | refine d_ixB2 ?_
            refine je_int ?_
            refine d_cmpI ?_
            refine ⟨_, rfl, ?_⟩
            refine ⟨fun h2 => ?_, fun h2 => ?_⟩
            ·
              have hf2 := of_decide_eq_true h2
              refine jb_cons (js_expr ?_)
              refine je_append ?_
              refine je_name 4 rfl rfl ?_
              refine ⟨_, rfl, ⟨_, by first | assumption | exact updM_same | (rw [updM_ne (by assumption)]; assumption)⟩, ?_⟩
              refine je_add ?_
              refine je_ix ?_
              refine je_ix ?_
              refine je_name 1 rfl rfl ?_
              refine je_name 5 rfl rfl ?_
              refine d_ixV (j) (by omega) (by omega) ?_
              refine je_int ?_
              first | refine d_ixT rfl ?_ | refine d_ixB0 ?_
              refine je_fdiv ?_
              refine je_sub ?_
              refine je_add ?_
              refine je_sub ?_
              refine je_name 6 rfl rfl ?_
              refine je_ix ?_
              refine je_name 8 rfl rfl ?_
              refine je_int ?_
              first | refine d_ixT rfl ?_ | refine d_ixB1 ?_
              refine d_subI ?_
              refine je_ix ?_
              refine je_name 8 rfl rfl ?_
              refine je_int ?_
              first | refine d_ixT rfl ?_ | refine d_ixB2 ?_
              first | refine d_addI ?_ | refine d_addL (by constructor) (by constructor) (by walk_at "lens") ?_ | refine d_addS (by walk_at "lens") ?_ | refine d_addT (by walk_at "lens") ?_
              refine je_int ?_
              refine d_subI ?_
              refine je_ix ?_
              refine je_name 8 rfl rfl ?_
              refine je_int ?_
              first | refine d_ixT rfl ?_ | refine d_ixB2 ?_
              refine d_fdivI (by walk_at "cd") ?_
              first | refine d_addI ?_ | refine d_addL (by constructor) (by constructor) (by walk_at "lens") ?_ | refine d_addS (by walk_at "lens") ?_ | refine d_addT (by walk_at "lens") ?_
              refine ⟨_, by first | assumption | exact updM_same | (rw [updM_ne (by assumption)]; assumption), by walk_at "lens", ?_⟩
              refine jb_nil ?_
              refine jb_nil ?_
              refine jb_nil ?_
              refine ⟨_, ?_, rfl, ?_⟩
              · walk_at "le"
              · rw [app_int, hst, ← List.append_assoc, show candB (vAt vs j).1 (c_ + usedL vs j (i + 1)) (.jar s f) = [(vAt vs j).1 + (c_ + usedL vs j (i + 1) - s + f - 1) / f] from if_pos (of_decide_eq_true h2)]
            refine jb_nil ?_
            refine jb_nil ?_
            refine jb_nil ?_
            refine ⟨_, ?_, rfl, ?_⟩
            · walk_at "le"
            · rw [hst, show candB (vAt vs j).1 (c_ + usedL vs j (i + 1)) (.jar s f) = [] from if_neg (of_decide_eq_false h2), List.append_nil]
          ·
            
            refine jb_cons (js_if ?_)
            refine jt_eq c ?_
            refine je_ix ?_
            refine je_name 8 rfl rfl ?_
            refine je_int ?_
            first | refine d_ixT rfl ?_ | refine d_ixB0 ?_
            refine je_str ?_
            first | refine d_eqI ?_ | refine d_eqS ?_ | refine d_eqB ?_ | refine d_eqNI ?_
            refine ⟨_, rfl, ?_⟩
            refine ⟨fun h1 => ?_, fun h1 => absurd h1 (by decide +kernel)⟩
            refine jb_cons (js_expr ?_)
            refine je_append ?_
            refine je_name 4 rfl rfl ?_
            refine ⟨_, rfl, ⟨_, by first | assumption | exact updM_same | (rw [updM_ne (by assumption)]; assumption)⟩, ?_⟩
            refine je_add ?_
            refine je_ix ?_
            refine je_ix ?_
            refine je_name 1 rfl rfl ?_
            refine je_name 5 rfl rfl ?_
            refine d_ixV (j) (by omega) (by omega) ?_
            refine je_int ?_
            first | refine d_ixT rfl ?_ | refine d_ixB0 ?_
            refine je_ix ?_
            refine je_name 8 rfl rfl ?_
            refine je_int ?_
            first | refine d_ixT rfl ?_ | refine d_ixB2 ?_
            first | refine d_addI ?_ | refine d_addL (by constructor) (by constructor) (by walk_at "lens") ?_ | refine d_addS (by walk_at "lens") ?_ | refine d_addT (by walk_at "lens") ?_
            refine ⟨_, by first | assumption | exact updM_same | (rw [updM_ne (by assumption)]; assumption), by walk_at "lens", ?_⟩
            refine jb_nil ?_
            refine jb_nil ?_
            refine ⟨_, ?_, rfl, ?_⟩
            · walk_at "le"
            · rw [app_int, hst, ← List.append_assoc]; rfl
        obtain ⟨rfl, rfl⟩ := iv
        refine JB.le ?_ hle
        rw [show (Src.seq (.lst (bs.map Bd.tv)) (bs.map Bd.tv)).items.length = bs.length from List.length_map .., List.take_length]
        refine jb_nil ?_
        refine ⟨_, ?_, rfl, ?_⟩
        · walk_at "le"
        · rw [candE_succ, ← List.append_assoc]
      obtain ⟨rfl, rfl⟩ := iv
      refine JB.le ?_ hle
      rw [rng_len, show ((vs.length : Int) - (j : Int)).toNat = vs.length - j by omega]
      refine jb_nil ?_
      refine ⟨_, ?_, rfl, ?_⟩
      · walk_at "le"
      · rw [candT_succ, ← List.append_assoc, ← List.append_assoc]
    obtain ⟨rfl, rfl⟩ := iv
    refine JB.le ?_ hle
    rw [rng_len, show ((vs.length : Int)).toNat = vs.length from Int.toNat_natCast _]
    refine jb_freeze 4 rfl updM_same ?_
    rw [delM_updM hfa]
    have hX := candT_len hbl hvl c_ vs.length
    refine jb_cons (js_ret ?_)
    refine je_sortset c T.m_sorted T.m_set ?_
    refine je_lcG (x := "_law_one") 9 c.calm c.nd (blkOk_by (N := ["_law_bounds", "_law_visits", "_law_moment", "_law_cost_here", "_law_found", "_law_k", "_law_used", "_law_end", "_law_bound_here", "_law_one"]) (sc := defScope s__law_begins) (by decide +kernel)) (fun _ _ _ _ _ => pg_name (i := 9) c.nd rfl (Or.inl rfl)) ?_
    refine ji_seq ?_
    refine je_name 4 rfl rfl ?_
    refine ⟨_, by walk_at "sq", ?_⟩
    refine lc_map Dv.int (cands bs vs t c_) (fun i => if t ≤ i then some (.int i) else none) rfl (.lst _) (by show ([t] ++ candT bs vs c_ vs.length).length < sizeLine; rw [List.length_append, sizeLine_eq]; simp only [List.length_cons, List.length_nil]; omega) (fun j x μ' hx hμ => ?_) ?_
    ·
      intro s1 H1 C1 cl1 fp1
      refine jt_ge ?_
      refine je_name 9 rfl rfl ?_
      refine je_name 2 rfl rfl ?_
      refine d_cmpI ?_
      refine ⟨_, rfl, ?_⟩
      refine ⟨fun h2 s2 H2 C2 cl2 fp2 => ?_, fun h2 => ⟨(if_neg (of_decide_eq_false h2)).symm, rfl⟩⟩
      refine je_name 9 rfl rfl ?_
      exact ⟨(if_pos (of_decide_eq_true ‹decide (t ≤ x) = true›)).symm, rfl⟩
    rw [fm_if (fun i : Int => t ≤ i) Dv.int (cands bs vs t c_)]
    refine ⟨(cands bs vs t c_).filter fun i => decide (t ≤ i), .lst _, ?_, fun ms hm1 hm2 => ?_⟩
    · have h1 : ((cands bs vs t c_).filter fun i => decide (t ≤ i)).length ≤ ([t] ++ candT bs vs c_ vs.length).length := List.length_filter_le _ _
      rw [List.length_append] at h1
      simp only [List.length_cons, List.length_nil] at h1
      unfold scanBound
      omega
    exact hk ms hm1 fun i => by rw [hm2 i, List.mem_filter, decide_eq_true_iff]
theorem sc__law_earliest : FnScope ["_law_bounds", "_law_visits", "_law_moment", "_law_cost_here", "_law_there"] ["_law_bounds", "_law_visits", "_law_moment", "_law_cost_here"] (defScope s__law_earliest) := ⟨rfl, rfl, rfl, by decide +kernel, rfl, by decide +kernel, by decide +kernel⟩
theorem ok__law_earliest {f : Addr} {fd : FuncData} (F : Fun K "_law_earliest" "_law_earliest" s__law_earliest f fd) (T : Txt K mg A) (F__law_begins : DCal Pg w K mg base 1 "_law_begins" (S__law_begins A) []) (F__law_breaks : DCal Pg w K mg base 3 "_law_breaks" (S__law_breaks A) []) (F__law_with : DCal Pg w K mg base 1 "_law_with" (S__law_with A) []) : FnOk Pg w K mg base (L2.CX Pg w) 4 f fd ["_law_bounds", "_law_visits", "_law_moment", "_law_cost_here"] (toSp K (S__law_earliest A)) := by
  refine fn_data F sc__law_earliest (fun ds μ kd ke h => ?_) (fun cdv A_ outer s H E c ow ds μ kd ke h => ?_)
  · obtain ⟨bs, vs, t, c_, r, rfl, hkb, hbl, hvl, hv, hc0, hr, hk⟩ := h; rfl
  · obtain ⟨bs, vs, t, c_, r, rfl, hkb, hbl, hvl, hv, hc0, hr, hk⟩ := h
    have hpos : ∀ y, ∀ p ∈ withV vs y c_, 0 ≤ p.2 := fun y p hp => by
      rcases withV_mem hp with rfl | hp
      · show 0 ≤ c_; omega
      · exact hv.pos p hp
    refine jb_cons (js_forT 4 c.calm ow (pg_name (i := 4) c.nd rfl (by first | exact Or.inl rfl | exact Or.inr rfl)) ?_)
    refine ji_seq ?_
    refine je_call c F__law_begins (by decide) ?_
    refine ja_cons ?_
    refine je_name 0 rfl rfl ?_
    refine ja_cons ?_
    refine je_name 1 rfl rfl ?_
    refine ja_cons ?_
    refine je_name 2 rfl rfl ?_
    refine ja_cons ?_
    refine je_name 3 rfl rfl ?_
    refine ja_nil ?_
    refine ⟨bs, vs, t, c_, rfl, fun b hb => (hkb b hb).1, hbl, hvl, fun ms hms hmem => ?_⟩
    have hin : ∀ m, r = some m → m ∈ ms := fun m hm => by
      subst hm
      exact (hmem m).mpr ⟨cand_least hv.1 hv.pos hkb hr, hr.1⟩
    refine ⟨_, by walk_at "sq", ?_⟩
    refine ⟨fun j e μ' => e = [some (.lst (bs.map Bd.tv)), some (.lst (vs.map encV.dv)), some (.int t), some (.int c_), none] ∧ μ' = μ ∧ ∀ (i : Nat) (y : Int), i < j → ms[i]? = some y → ¬ Good bs vs c_ y, ?_, fun _ _ _ _ => .lst _, fun j x e μ' hx iv => ?_, fun e μ' iv n' hle => ?_⟩
    · exact ⟨_, LeE.refl _, rfl, rfl, fun i y hi => absurd hi (by omega)⟩
    ·
      obtain ⟨rfl, rfl, hp⟩ := iv
      obtain ⟨y, hy, rfl⟩ := map_item (f := Dv.int) hx
      rcases hbr : brkOf bs (withV vs (y) c_) with _ | ⟨k, p⟩
      ·
        
        refine jb_cons (js_if ?_)
        refine jt_is ?_
        refine je_call c F__law_breaks (by decide) ?_
        refine ja_cons ?_
        refine je_name 0 rfl rfl ?_
        refine ja_cons ?_
        refine je_call c F__law_with (by decide) ?_
        refine ja_cons ?_
        refine je_name 1 rfl rfl ?_
        refine ja_cons ?_
        refine je_name 4 rfl rfl ?_
        refine ja_cons ?_
        refine je_name 3 rfl rfl ?_
        refine ja_nil ?_
        refine ⟨vs, y, c_, rfl, by omega, hv.1, ?_⟩
        refine ja_nil ?_
        refine ⟨bs, _, rfl, fun b hb => (hkb b hb).1, hbl, by rw [withV_len]; omega, hpos (y), ?_⟩
        rw [hbr]
        refine je_non ?_
        refine d_isN ?_
        refine ⟨_, rfl, ?_⟩
        refine ⟨fun h1 => ?_, fun h1 => absurd h1 (by decide)⟩
        refine jb_cons (js_ret ?_)
        refine je_name 4 rfl rfl ?_
        rw [first_least hms (fun i hi => ((hmem i).mp hi).2) hin hr hy hp (good_brk.mpr hbr)] at hk
        exact hk
      ·
        
        refine jb_cons (js_if ?_)
        refine jt_is ?_
        refine je_call c F__law_breaks (by decide) ?_
        refine ja_cons ?_
        refine je_name 0 rfl rfl ?_
        refine ja_cons ?_
        refine je_call c F__law_with (by decide) ?_
        refine ja_cons ?_
        refine je_name 1 rfl rfl ?_
        refine ja_cons ?_
        refine je_name 4 rfl rfl ?_
        refine ja_cons ?_
        refine je_name 3 rfl rfl ?_
        refine ja_nil ?_
        refine ⟨vs, y, c_, rfl, by omega, hv.1, ?_⟩
        refine ja_nil ?_
        refine ⟨bs, _, rfl, fun b hb => (hkb b hb).1, hbl, by rw [withV_len]; omega, hpos (y), ?_⟩
        rw [hbr]
        refine je_non ?_
        refine d_isN ?_
        refine ⟨_, rfl, ?_⟩
        refine ⟨fun h1 => absurd (show false = true from h1) (by decide), fun h1 => ?_⟩
        refine jb_nil ?_
        refine jb_nil ?_ --! turn   --#5
        refine ⟨_, ?_, rfl, rfl, fun i z hi hz => ?_⟩
        · walk_at "le"
        · by_cases q : i = j
          · subst q; rw [hy] at hz; cases hz; exact fun g => absurd ((good_brk.mp g).symm.trans hbr) (by simp)
          · exact hp i z (by omega) hz
    obtain ⟨rfl, rfl, hp⟩ := iv
    refine JB.le ?_ hle
    refine jb_cons (js_ret ?_)
    refine je_non ?_
    rw [none_least hin hr (fun i y hi hy => hp i y (by rw [show (Src.seq (.lst (ms.map Dv.int)) (ms.map Dv.int)).items.length = ms.length from List.length_map ..]; exact hi) hy)] at hk
    exact hk
theorem sc__law_one_by_one : FnScope ["_law_bounds", "_law_visits", "_law_moment", "_law_cost_here", "_law_last", "_law_there", "_law_one"] ["_law_bounds", "_law_visits", "_law_moment", "_law_cost_here"] (defScope s__law_one_by_one) := ⟨rfl, rfl, rfl, by decide +kernel, rfl, by decide +kernel, by decide +kernel⟩
theorem ok__law_one_by_one {f : Addr} {fd : FuncData} (F : Fun K "_law_one_by_one" "_law_one_by_one" s__law_one_by_one f fd) (T : Txt K mg A) (F__law_breaks : DCal Pg w K mg base 3 "_law_breaks" (S__law_breaks A) []) (F__law_with : DCal Pg w K mg base 1 "_law_with" (S__law_with A) []) : FnOk Pg w K mg base (L2.CX Pg w) 4 f fd ["_law_bounds", "_law_visits", "_law_moment", "_law_cost_here"] (toSp K (S__law_one_by_one A)) := by
  refine fn_data F sc__law_one_by_one (fun ds μ kd ke h => ?_) (fun cdv A_ outer s H E c ow ds μ kd ke h => ?_)
  · obtain ⟨bs, vs, t, c_, r, rfl, hkb, hbl, hvl, hv, ⟨hc1, hc9⟩, hsm, ⟨ht0, ht1⟩, hr, hk⟩ := h; rfl
  · obtain ⟨bs, vs, t, c_, r, rfl, hkb, hbl, hvl, hv, ⟨hc1, hc9⟩, hsm, ⟨ht0, ht1⟩, hr, hk⟩ := h
    have hpos : ∀ y, ∀ p ∈ withV vs y c_, 0 ≤ p.2 := fun y p hp => by
      rcases withV_mem hp with rfl | hp
      · show 0 ≤ c_; omega
      · exact hv.pos p hp
    refine jb_cons (js_set 4 c rfl ?_)
    refine je_cB (cr_max c.calm) T.m_max PyProof.Rows.boot_max ?_
    refine ja_cons ?_
    refine je_add ?_
    refine (je_lst ?_ : _)
    refine ja_cons ?_
    refine je_name 2 rfl rfl ?_
    refine ja_nil ?_
    refine ⟨by walk_at "lens", ?_⟩
    refine je_lcG (x := "_law_one") 6 c.calm c.nd (blkOk_by (N := ["_law_bounds", "_law_visits", "_law_moment", "_law_cost_here", "_law_last", "_law_there", "_law_one"]) (sc := defScope s__law_one_by_one) (by decide +kernel)) (fun _ _ _ _ _ => pg_name (i := 6) c.nd rfl (Or.inl rfl)) ?_
    refine ji_seq ?_
    refine je_name 1 rfl rfl ?_
    refine ⟨_, by walk_at "sq", ?_⟩
    refine lc_map (encV.dv) (vs) (fun p => some (.int p.1)) rfl (by first | trivial | exact .lst _ | assumption) (by first | omega | walk_at "lens") (fun j x μ' hx hμ => ?_) ?_
    ·
      intro s1 H1 C1 cl1 fp1
      refine ⟨fun _ s2 H2 C2 cl2 fp2 => ?_, fun z => nomatch z⟩
      refine je_ix ?_
      refine je_name 6 rfl rfl ?_
      refine je_int ?_
      first | refine d_ixT rfl ?_ | refine d_ixB0 ?_
      exact ⟨rfl, rfl⟩
    rw [fm_int (fun p : Int × Int => p.1)]
    first | refine d_addI ?_ | refine d_addL (by constructor) (by constructor) (by walk_at "lens") ?_ | refine d_addS (by walk_at "lens") ?_ | refine d_addT (by walk_at "lens") ?_
    refine ja_nil ?_
    refine d_maxL (ns := t :: vs.map fun p => p.1) (.lst _) (by simp) fun M hM1 hM2 => ?_
    have hMt : t ≤ M := hM2 t List.mem_cons_self
    have hMv : ∀ q ∈ vs, q.1 ≤ M := fun q hq => hM2 q.1 (List.mem_cons_of_mem _ (List.mem_map.mpr ⟨q, hq, rfl⟩))
    have hMb : M ≤ 1000000000000 := by
      rcases List.mem_cons.mp hM1 with rfl | h
      · exact ht1
      · obtain ⟨q, hq, rfl⟩ := List.mem_map.mp h
        exact (hv.2 q hq).1.2
    refine jb_cons (js_forT 5 c.calm ow (pg_name (i := 5) c.nd rfl (by first | exact Or.inl rfl | exact Or.inr rfl)) ?_)
    refine ji_range2 T.m_range ?_
    refine ja_cons ?_
    refine je_name 2 rfl rfl ?_
    refine ja_cons ?_
    refine je_add ?_
    refine je_name 4 rfl rfl ?_
    refine je_int ?_
    first | refine d_addI ?_ | refine d_addL (by constructor) (by constructor) (by walk_at "lens") ?_ | refine d_addS (by walk_at "lens") ?_ | refine d_addT (by walk_at "lens") ?_
    refine ja_nil ?_
    refine ⟨_, _, rfl, by omega, ?_⟩
    refine ⟨fun j e μ' => e = [some (.lst (bs.map Bd.tv)), some (.lst (vs.map encV.dv)), some (.int t), some (.int c_), some (.int M), none, none] ∧ μ' = μ ∧ ∀ i : Nat, i < j → ¬ Good bs vs c_ (t + (i : Int)), ?_, fun _ _ _ _ => trivial, fun j x e μ' hx iv => ?_, fun e μ' iv n' hle => ?_⟩
    · exact ⟨_, LeE.refl _, rfl, rfl, fun i hi => absurd hi (by omega)⟩
    ·
      obtain ⟨rfl, rfl, hp⟩ := iv
      obtain ⟨rfl, hj⟩ := rng_item hx
      rcases hbr : brkOf bs (withV vs (t + (j : Int)) c_) with _ | ⟨k, p⟩
      ·
        
        refine jb_cons (js_if ?_)
        refine jt_is ?_
        refine je_call c F__law_breaks (by decide) ?_
        refine ja_cons ?_
        refine je_name 0 rfl rfl ?_
        refine ja_cons ?_
        refine je_call c F__law_with (by decide) ?_
        refine ja_cons ?_
        refine je_name 1 rfl rfl ?_
        refine ja_cons ?_
        refine je_name 5 rfl rfl ?_
        refine ja_cons ?_
        refine je_name 3 rfl rfl ?_
        refine ja_nil ?_
        refine ⟨vs, t + (j : Int), c_, rfl, by omega, hv.1, ?_⟩
        refine ja_nil ?_
        refine ⟨bs, _, rfl, fun b hb => (hkb b hb).1, hbl, by rw [withV_len]; omega, hpos (t + (j : Int)), ?_⟩
        rw [hbr]
        refine je_non ?_
        refine d_isN ?_
        refine ⟨_, rfl, ?_⟩
        refine ⟨fun h1 => ?_, fun h1 => absurd h1 (by decide)⟩
        refine jb_cons (js_ret ?_)
        refine je_name 5 rfl rfl ?_
        rw [seq_least hr hp (good_brk.mpr hbr)] at hk
        exact hk
      ·
        
        refine jb_cons (js_if ?_)
        refine jt_is ?_
        refine je_call c F__law_breaks (by decide) ?_
        refine ja_cons ?_
        refine je_name 0 rfl rfl ?_
        refine ja_cons ?_
        refine je_call c F__law_with (by decide) ?_
        refine ja_cons ?_
        refine je_name 1 rfl rfl ?_
        refine ja_cons ?_
        refine je_name 5 rfl rfl ?_
        refine ja_cons ?_
        refine je_name 3 rfl rfl ?_
        refine ja_nil ?_
        refine ⟨vs, t + (j : Int), c_, rfl, by omega, hv.1, ?_⟩
        refine ja_nil ?_
        refine ⟨bs, _, rfl, fun b hb => (hkb b hb).1, hbl, by rw [withV_len]; omega, hpos (t + (j : Int)), ?_⟩
        rw [hbr]
        refine je_non ?_
        refine d_isN ?_
        refine ⟨_, rfl, ?_⟩
        refine ⟨fun h1 => absurd (show false = true from h1) (by decide), fun h1 => ?_⟩
        refine jb_nil ?_
        refine jb_nil ?_ --! turn   --#5
        refine ⟨_, ?_, rfl, rfl, fun i hi => ?_⟩
        · walk_at "le"
        · by_cases q : i = j
          · subst q; exact fun g => absurd ((good_brk.mp g).symm.trans hbr) (by simp)
          · exact hp i (by omega)
    obtain ⟨rfl, rfl, hp⟩ := iv
    refine JB.le ?_ hle
    rw [rng_len] at hp
    refine jb_cons (js_ret ?_)
    refine je_non ?_
    rw [seq_none hr hp (fun m hm => by subst hm; have := least_near hv.1 hv.pos hkb hsm hc1 hc9 hMv hMt hr; omega)] at hk
    exact hk
theorem sc__law_asked : FnScope ["_law_book", "_law_bounds", "_law_visits", "_law_moment", "_law_cost_here", "_law_due", "_law_found"] ["_law_book", "_law_bounds", "_law_visits", "_law_moment", "_law_cost_here"] (defScope s__law_asked) := ⟨rfl, rfl, rfl, by decide +kernel, rfl, by decide +kernel, by decide +kernel⟩
theorem ok__law_asked {f : Addr} {fd : FuncData} (F : Fun K "_law_asked" "_law_asked" s__law_asked f fd) (T : Txt K mg A) (F__law_earliest : DCal Pg w K mg base 4 "_law_earliest" (S__law_earliest A) []) (M_Book_earliest : DMet Pg w K mg base 4 A.CBO "earliest" (S_Book_earliest A) []) (M_Book_visits : DMet Pg w K mg base 1 A.CBO "visits" (S_Book_visits A) []) : FnOk Pg w K mg base (L2.CX Pg w) 5 f fd ["_law_book", "_law_bounds", "_law_visits", "_law_moment", "_law_cost_here"] (toSp K (S__law_asked A)) := by
  refine fn_data F sc__law_asked (fun ds μ kd ke h => ?_) (fun cdv A_ outer s H E c ow ds μ kd ke h => ?_)
  · obtain ⟨bk, xs, bs, vs, t, c_, rfl, B, hkp, hvl, hv, ⟨hc1, hc9⟩, ⟨ht0, ht1⟩, hk⟩ := h; rfl
  · obtain ⟨bk, xs, bs, vs, t, c_, rfl, B, hkp, hvl, hv, ⟨hc1, hc9⟩, ⟨ht0, ht1⟩, hk⟩ := h
    have hkb : ∀ b ∈ bs, b.ok ∧ brokenAll b vs = [] := fun b hb => ⟨B.ok b hb, hkp b hb⟩
    obtain ⟨n, r, hE, hr⟩ := ear_all hv (show (0 : Int) ≤ c_ by omega) hkb t
    refine jb_cons (js_set 5 c rfl ?_)
    refine je_call c F__law_earliest (by decide) ?_
    refine ja_cons ?_
    refine je_name 1 rfl rfl ?_
    refine ja_cons ?_
    refine je_name 2 rfl rfl ?_
    refine ja_cons ?_
    refine je_name 3 rfl rfl ?_
    refine ja_cons ?_
    refine je_name 4 rfl rfl ?_
    refine ja_nil ?_
    refine ⟨bs, vs, t, c_, r, rfl, hkb, B.len, hvl, hv, by omega, hr, ?_⟩
    refine jb_cons (js_set 6 c rfl ?_)
    refine je_meth c ?_
    refine je_name 0 rfl rfl ?_
    refine ⟨_, _, _, _, _, .obj B.at_, bkF_no _ _ (by decide +kernel) (by decide +kernel), M_Book_earliest, by decide, ?_⟩
    refine ja_cons ?_
    refine je_name 3 rfl rfl ?_
    refine ja_cons ?_
    refine je_name 4 rfl rfl ?_
    refine ja_nil ?_
    refine ⟨bk, _, bs, vs, _, _, some (t), some (c_), rfl, B, .int _, .int _, fun z => absurd z (by simp [goodB]; try omega), fun _ z => absurd z (by simp [goodB]; try omega), fun t2 c2 _ _ e1 e2 => ?_⟩
    cases e1
    cases e2
    refine ⟨n, r, hE, ?_⟩
    rcases r with _ | m
    ·
      
      refine jb_cons (js_if ?_)
      refine jt_w ?_
      refine jw_or ?_
      refine jt_ne c ?_
      refine je_name 6 rfl rfl ?_
      refine je_name 5 rfl rfl ?_
      refine d_neOO (none) ?_
      refine ⟨_, rfl, ?_⟩
      refine ⟨fun h => absurd h (by decide), fun _ => ?_⟩
      refine jw_or ?_
      refine jt_val ?_
      refine je_cB call_isiA T.m_isinstance PyProof.Rows.boot_isinstance ?_
      refine ja_cons ?_
      refine je_name 6 rfl rfl ?_
      refine ja_cons ?_
      refine je_bty T.m_bool PyProof.Rows.boot_bool ?_
      refine ja_nil ?_
      refine d_isi (.non) (.ty _) (kit_ty (r := false) (by decide +kernel)) ?_
      refine ⟨_, rfl, ?_⟩
      refine ⟨fun h => absurd h (by decide), fun _ => ?_⟩
      refine jw_or1 ?_
      refine jt_ne c ?_
      refine je_meth0 c ?_
      refine je_name 0 rfl rfl ?_
      refine ⟨_, _, _, _, _, .obj B.at_, bkF_no _ _ (by decide +kernel) (by decide +kernel), M_Book_visits, by decide, ?_⟩
      refine ⟨bk, _, vs, rfl, B.at_, fun qq hqq => ?_⟩
      have xqq : ExtM μ (updM μ qq (.lst (vs.map encV.dv))) := ext_new hqq
      have B2 := B.ext xqq
      refine je_name 2 rfl rfl ?_
      refine d_neSE encV (by decide) (.obj updM_same) (.lst _) ?_
      refine ⟨_, rfl, ?_⟩
      refine ⟨fun h3 => absurd h3 (by simp), fun h3 => ?_⟩
      refine jb_nil ?_
      refine jb_cons (js_ret ?_)
      refine je_or ?_
      refine je_is ?_
      refine je_name 5 rfl rfl ?_
      refine je_non ?_
      refine d_isN ?_
      refine ⟨_, rfl, fun _ => hk _ xqq, fun z => absurd z (by decide)⟩
    ·
      
      refine jb_cons (js_if ?_)
      refine jt_w ?_
      refine jw_or ?_
      refine jt_ne c ?_
      refine je_name 6 rfl rfl ?_
      refine je_name 5 rfl rfl ?_
      refine d_neOO (some m) ?_
      refine ⟨_, rfl, ?_⟩
      refine ⟨fun h => absurd h (by decide), fun _ => ?_⟩
      refine jw_or ?_
      refine jt_val ?_
      refine je_cB call_isiA T.m_isinstance PyProof.Rows.boot_isinstance ?_
      refine ja_cons ?_
      refine je_name 6 rfl rfl ?_
      refine ja_cons ?_
      refine je_bty T.m_bool PyProof.Rows.boot_bool ?_
      refine ja_nil ?_
      refine d_isi (.int _) (.ty _) (kit_ty (r := false) (by decide +kernel)) ?_
      refine ⟨_, rfl, ?_⟩
      refine ⟨fun h => absurd h (by decide), fun _ => ?_⟩
      refine jw_or1 ?_
      refine jt_ne c ?_
      refine je_meth0 c ?_
      refine je_name 0 rfl rfl ?_
      refine ⟨_, _, _, _, _, .obj B.at_, bkF_no _ _ (by decide +kernel) (by decide +kernel), M_Book_visits, by decide, ?_⟩
      refine ⟨bk, _, vs, rfl, B.at_, fun qq hqq => ?_⟩
      have xqq : ExtM μ (updM μ qq (.lst (vs.map encV.dv))) := ext_new hqq
      have B2 := B.ext xqq
      refine je_name 2 rfl rfl ?_
      refine d_neSE encV (by decide) (.obj updM_same) (.lst _) ?_
      refine ⟨_, rfl, ?_⟩
      refine ⟨fun h3 => absurd h3 (by simp), fun h3 => ?_⟩
      refine jb_nil ?_
      refine jb_cons (js_ret ?_)
      refine je_or ?_
      refine je_is ?_
      refine je_name 5 rfl rfl ?_
      refine je_non ?_
      refine d_isN ?_
      refine ⟨_, rfl, fun z => absurd (show false = true from z) (by decide), fun _ => ?_⟩
      refine je_or ?_
      refine je_gt ?_
      refine je_name 5 rfl rfl ?_
      refine je_pow ?_
      refine je_int ?_
      refine je_int ?_
      refine d_powE (v := 1000000000000) ⟨by decide, by decide, by decide⟩ rfl ?_
      refine d_cmpI ?_
      refine ⟨_, rfl, fun _ => hk _ xqq, fun h5 => ?_⟩
      have h5b := of_decide_eq_false h5
      obtain ⟨n2, r2, hE2, hr2⟩ := ear_all hv (show (0 : Int) ≤ c_ by omega) hkb m
      obtain rfl : r2 = some m := least_uniq hr2 ⟨Int.le_refl _, hr.2.1, fun t' a b => absurd a (by omega)⟩
      refine je_one ?_
      refine je_eq c ?_
      refine je_meth c ?_
      refine je_name 0 rfl rfl ?_
      refine ⟨_, _, _, _, _, .obj B2.at_, bkF_no _ _ (by decide +kernel) (by decide +kernel), M_Book_earliest, by decide, ?_⟩
      refine ja_cons ?_
      refine je_name 5 rfl rfl ?_
      refine ja_cons ?_
      refine je_name 4 rfl rfl ?_
      refine ja_nil ?_
      refine ⟨bk, _, bs, vs, _, _, some (m), some (c_), rfl, B2, .int _, .int _, fun z => absurd z (by have := hr.1; simp [goodB]; omega), fun _ z => absurd z (by simp [goodB]; try omega), fun t2 c2 _ _ e1 e2 => ?_⟩
      cases e1
      cases e2
      refine ⟨n2, some m, hE2, ?_⟩
      refine je_name 5 rfl rfl ?_
      first | refine d_eqI ?_ | refine d_eqS ?_ | refine d_eqB ?_ | refine d_eqNI ?_
      rw [decide_eq_true rfl]
      exact hk _ xqq
theorem sc__law_put : FnScope ["_law_book", "_law_moment", "_law_cost_here", "_law_error", "e"] ["_law_book", "_law_moment", "_law_cost_here"] (defScope s__law_put) := ⟨rfl, rfl, rfl, by decide +kernel, rfl, by decide +kernel, by decide +kernel⟩
theorem ok__law_put {f : Addr} {fd : FuncData} (F : Fun K "_law_put" "_law_put" s__law_put f fd) (T : Txt K mg A) (M_Book_put : DMet Pg w K mg base 5 A.CBO "put" (S_Book_put A) []) : FnOk Pg w K mg base (L2.CX Pg w) 6 f fd ["_law_book", "_law_moment", "_law_cost_here"] (toSp K (S__law_put A)) := by
  refine fn_data F sc__law_put (fun ds μ kd ke h => ?_) (fun cdv A_ outer s H E c ow ds μ kd ke h => ?_)
  · obtain ⟨bk, xs, bs, vs, t, c_, rfl, B, hvl, ⟨hc1, hc9⟩, ⟨ht0, ht1⟩, hk⟩ := h; rfl
  · obtain ⟨bk, xs, bs, vs, t, c_, rfl, B, hvl, ⟨hc1, hc9⟩, ⟨ht0, ht1⟩, hk⟩ := h
    refine jb_cons (js_set 3 c rfl (je_non ?_))
    refine jb_cons (js_try 4 c rfl ⟨rfl, by decide, .inl T.x_GateError.g⟩ ?_)
    intro pq1 xe1 W1 c1 ow1
    refine jb_cons (js_expr ?_)
    refine je_meth c1 (je_name 0 rfl rfl ⟨_, _, _, _, _, .obj B.at_, bkF_no _ _ (by decide +kernel) (by decide +kernel), M_Book_put, by decide, (ja_cons (je_name 1 rfl rfl (ja_cons (je_name 2 rfl rfl (ja_nil ?_)))))⟩)
    refine ⟨bk, xs, bs, vs, _, _, some t, some c_, rfl, B, .int _, .int _, fun z => absurd z (by simp [goodB]; try omega), fun _ z => absurd z (by simp [goodB]; try omega), fun t2 c2 _ _ e1 e2 => ?_⟩
    cases e1
    cases e2
    refine ⟨fun z => absurd z (by omega), fun _ => ⟨fun k p hb => ?_, fun hb => ?_⟩⟩
    · refine ⟨true, T.ex_Broken_GateError, fun _ => ⟨_, rfl, fun z pq => ?_⟩, fun z => (nomatch z)⟩
      refine jb_cons (js_setN 3 c.nd rfl (je_name 4 rfl rfl (jb_nil ?_)))
      refine jb_cons (js_ret (je_is (je_name 3 rfl rfl (je_non (d_isN ?_)))))
      exact hk false _ (fun z => (nomatch z)) fun _ => B
    refine jb_nil ?_
    refine jb_cons (js_ret (je_is (je_name 3 rfl rfl (je_non (d_isN ?_)))))
    exact hk true _ (fun _ => ⟨hb, B.put (by rw [withV_len]; omega)⟩) fun z => (nomatch z)
theorem sc__law_wide : FnScope ["_law_bound_here", "_law_cell_here"] ["_law_bound_here", "_law_cell_here"] (defScope s__law_wide) := ⟨rfl, rfl, rfl, by decide +kernel, rfl, by decide +kernel, by decide +kernel⟩
theorem ok__law_wide {f : Addr} {fd : FuncData} (F : Fun K "_law_wide" "_law_wide" s__law_wide f fd) (T : Txt K mg A) : FnOk Pg w K mg base (L2.CX Pg w) 1 f fd ["_law_bound_here", "_law_cell_here"] (toSp K (S__law_wide A)) := by
  refine fn_data F sc__law_wide (fun ds μ kd ke h => ?_) (fun cdv A_ outer s H E c ow ds μ kd ke h => ?_)
  · obtain ⟨b, c_, rfl, h0, hk⟩ := h; rfl
  · obtain ⟨b, c_, rfl, h0, hk⟩ := h
    rcases b with ⟨bs, bf⟩ | ⟨bs, bf⟩
    ·
      skip
      refine jb_cons (js_if ?_)
      refine jt_eq c ?_
      refine je_ix ?_
      refine je_name 0 rfl rfl ?_
      refine je_int ?_
      first | refine d_ixT rfl ?_ | refine d_ixB0 ?_
      refine je_str ?_
      first | refine d_eqI ?_ | refine d_eqS ?_ | refine d_eqB ?_ | refine d_eqNI ?_
      refine ⟨_, rfl, ?_⟩
      refine ⟨fun h1 => absurd h1 (by decide +kernel), fun h1 => ?_⟩
      refine jb_nil ?_
      refine jb_cons (js_ret ?_)
      refine je_tup ?_
      refine ja_cons ?_
      refine je_str ?_
      refine ja_cons ?_
      refine je_ix ?_
      refine je_name 0 rfl rfl ?_
      refine je_int ?_
      first | refine d_ixT rfl ?_ | refine d_ixB1 ?_
      refine ja_cons ?_
      refine je_ix ?_
      refine (je_lst ?_ : _)
      refine ja_cons ?_
      refine je_int ?_
      refine ja_cons ?_
      refine je_int ?_
      refine ja_cons ?_
      refine je_add ?_
      refine je_int ?_
      refine je_mod ?_
      refine je_name 1 rfl rfl ?_
      refine je_int ?_
      refine d_modI (by first | decide | omega) ?_
      first | refine d_addI ?_ | refine d_addL (by constructor) (by constructor) (by walk_at "lens") ?_ | refine d_addS (by walk_at "lens") ?_ | refine d_addT (by walk_at "lens") ?_
      refine ja_nil ?_
      refine ⟨by walk_at "lens", ?_⟩
      refine je_mod ?_
      refine je_name 1 rfl rfl ?_
      refine je_int ?_
      refine d_modI (by first | decide | omega) ?_
      refine d_ixInts [0, 1, (1 + (c_ % 1000))] (.lst _) (by walk_at "ix") (by walk_at "ix") ?_
      refine ja_nil ?_
      refine ⟨by walk_at "lens", ?_⟩
      exact hk
    ·
      have q : 50 ≤ ([50, 1000000, 1000000000000] : List Int).getD (c_ % 3).toNat 0 ∧ ([50, 1000000, 1000000000000] : List Int).getD (c_ % 3).toNat 0 ≤ 1000000000000 := getD_all (P := fun x => 50 ≤ x ∧ x ≤ 1000000000000) (by decide) (by simp; omega)
      refine jb_cons (js_if ?_)
      refine jt_eq c ?_
      refine je_ix ?_
      refine je_name 0 rfl rfl ?_
      refine je_int ?_
      first | refine d_ixT rfl ?_ | refine d_ixB0 ?_
      refine je_str ?_
      first | refine d_eqI ?_ | refine d_eqS ?_ | refine d_eqB ?_ | refine d_eqNI ?_
      refine ⟨_, rfl, ?_⟩
      refine ⟨fun h1 => ?_, fun h1 => absurd h1 (by decide +kernel)⟩
      refine jb_cons (js_ret ?_)
      refine je_tup ?_
      refine ja_cons ?_
      refine je_str ?_
      refine ja_cons ?_
      refine je_ix ?_
      refine je_name 0 rfl rfl ?_
      refine je_int ?_
      first | refine d_ixT rfl ?_ | refine d_ixB1 ?_
      refine ja_cons ?_
      refine je_add ?_
      refine je_int ?_
      refine je_mod ?_
      refine je_name 1 rfl rfl ?_
      refine je_ix ?_
      refine (je_lst ?_ : _)
      refine ja_cons ?_
      refine je_int ?_
      refine ja_cons ?_
      refine je_pow ?_
      refine je_int ?_
      refine je_int ?_
      refine d_powE (v := 1000000) ⟨by decide, by decide, by decide⟩ rfl ?_
      refine ja_cons ?_
      refine je_pow ?_
      refine je_int ?_
      refine je_int ?_
      refine d_powE (v := 1000000000000) ⟨by decide, by decide, by decide⟩ rfl ?_
      refine ja_nil ?_
      refine ⟨by walk_at "lens", ?_⟩
      refine je_mod ?_
      refine je_name 1 rfl rfl ?_
      refine je_int ?_
      refine d_modI (by first | decide | omega) ?_
      refine d_ixInts [50, 1000000, 1000000000000] (.lst _) (by walk_at "ix") (by walk_at "ix") ?_
      refine d_modI (by first | decide | omega) ?_
      first | refine d_addI ?_ | refine d_addL (by constructor) (by constructor) (by walk_at "lens") ?_ | refine d_addS (by walk_at "lens") ?_ | refine d_addT (by walk_at "lens") ?_
      refine ja_nil ?_
      refine ⟨by walk_at "lens", ?_⟩
      exact hk
theorem sc__law_changed : FnScope ["_law_book", "_law_bounds", "_law_visits", "_law_cell_here", "_law_scale_here", "_law_bound_here", "_law_at"] ["_law_book", "_law_bounds", "_law_visits", "_law_cell_here", "_law_scale_here"] (defScope s__law_changed) := ⟨rfl, rfl, rfl, by decide +kernel, rfl, by decide +kernel, by decide +kernel⟩
theorem ok__law_changed {f : Addr} {fd : FuncData} (F : Fun K "_law_changed" "_law_changed" s__law_changed f fd) (T : Txt K mg A) (F__law_bound : DCal Pg w K mg base 1 "_law_bound" (S__law_bound A) []) (F__law_wide : DCal Pg w K mg base 1 "_law_wide" (S__law_wide A) []) (F__law_first : DCal Pg w K mg base 2 "_law_first" (S__law_first A) []) (F__law_made : DCal Pg w K mg base 4 "_law_made" (S__law_made A) []) (M_Book_change : DMet Pg w K mg base 4 A.CBO "change" (S_Book_change A) []) : FnOk Pg w K mg base (L2.CX Pg w) 5 f fd ["_law_book", "_law_bounds", "_law_visits", "_law_cell_here", "_law_scale_here"] (toSp K (S__law_changed A)) := by
  refine fn_data F sc__law_changed (fun ds μ kd ke h => ?_) (fun cdv A_ outer s H E c ow ds μ kd ke h => ?_)
  · obtain ⟨bk, xs, bs, vs, c_, z, rfl, B, hkp, hv, hb0, h0, ⟨hz0, hz1⟩, hk⟩ := h; rfl
  · obtain ⟨bk, xs, bs, vs, c_, z, rfl, B, hkp, hv, hb0, h0, ⟨hz0, hz1⟩, hk⟩ := h
    have hbl := B.len
    have q1 : 1 ≤ ([1, 6] : List Int).getD (c_ / 2 % 2).toNat 0 ∧ ([1, 6] : List Int).getD (c_ / 2 % 2).toNat 0 ≤ 6 := getD_all (P := fun x => 1 ≤ x ∧ x ≤ 6) (by decide) (by simp; omega)
    refine jb_cons (js_set 5 c rfl ?_)
    refine je_call c F__law_bound (by decide) ?_
    refine ja_cons ?_
    refine je_fdiv ?_
    refine je_name 3 rfl rfl ?_
    refine je_int ?_
    refine d_fdivI (by walk_at "cd") ?_
    refine ja_cons ?_
    refine je_cB (call_max2 c.calm) T.m_max PyProof.Rows.boot_max ?_
    refine ja_cons ?_
    refine je_int ?_
    refine ja_cons ?_
    refine je_name 4 rfl rfl ?_
    refine ja_nil ?_
    refine d_max2 ?_
    refine ja_nil ?_
    refine ⟨_, _, rfl, by omega, by omega, by omega, ?_⟩
    have hbo := bound_ok (c := c_ / 4) (z := max 1 z) (by omega) (by omega) (by omega)
    have hbs := bound_sz (c := c_ / 4) (z := max 1 z) (by omega) (by omega) (by omega)
    have hbm := bound_small (c := c_ / 4) (z := max 1 z) (by omega)
    generalize m_law_bound (c_ / 4) (max 1 z) = b0 at *
    refine jb_cut (fun e μ2 => ∃ b1 : Bd, e = [some (.obj bk), some (.lst (bs.map Bd.tv)), some (.lst (vs.map encV.dv)), some (.int c_), some (.int z), some b1.tv, none] ∧ b1.ok ∧ b1.sz ≤ 1000000000 ∧ (z = 0 → smallB b1) ∧ μ = μ2) (js_if ?_) ?_
    ·
      
      refine jt_gt ?_
      refine je_name 4 rfl rfl ?_
      refine je_int ?_
      refine d_cmpI ?_
      refine ⟨_, rfl, ?_⟩
      refine ⟨fun h1 => ?_, fun h1 => ?_⟩
      ·
        refine jb_cons (js_set 5 c rfl ?_)
        refine je_call c F__law_wide (by decide) ?_
        refine ja_cons ?_
        refine je_name 5 rfl rfl ?_
        refine ja_cons ?_
        refine je_fdiv ?_
        refine je_name 3 rfl rfl ?_
        refine je_int ?_
        refine d_fdivI (by walk_at "cd") ?_
        refine ja_nil ?_
        refine ⟨b0, _, rfl, by omega, ?_⟩
        refine jb_nil ?_
        exact ⟨_, LeE.refl _, m_wide (c_ / 64) b0, rfl, wide_ok (by omega) hbo, by rw [wide_sz]; exact hbs, fun q => absurd (of_decide_eq_true h1) (by omega), rfl⟩
      refine jb_nil ?_
      exact ⟨_, LeE.refl _, b0, rfl, hbo, hbs, fun _ => hbm, rfl⟩
    rintro e μ2 ⟨b1, rfl, hb1, hs1, hm1, rfl⟩
    have hlo := hb1.lo
    refine jb_cons (js_set 5 c rfl ?_)
    refine je_tup ?_
    refine ja_cons ?_
    refine je_ix ?_
    refine je_name 5 rfl rfl ?_
    refine je_int ?_
    first | refine d_ixT rfl ?_ | refine d_ixB0 ?_
    refine ja_cons ?_
    refine je_mul ?_
    refine je_ix ?_
    refine je_name 5 rfl rfl ?_
    refine je_int ?_
    first | refine d_ixT rfl ?_ | refine d_ixB1 ?_
    refine je_ix ?_
    refine (je_lst ?_ : _)
    refine ja_cons ?_
    refine je_int ?_
    refine ja_cons ?_
    refine je_int ?_
    refine ja_nil ?_
    refine ⟨by walk_at "lens", ?_⟩
    refine je_mod ?_
    refine je_fdiv ?_
    refine je_name 3 rfl rfl ?_
    refine je_int ?_
    refine d_fdivI (by walk_at "cd") ?_
    refine je_int ?_
    refine d_modI (by first | decide | omega) ?_
    refine d_ixInts [1, 6] (.lst _) (by walk_at "ix") (by walk_at "ix") ?_
    first | refine d_mulI (by walk_at "cm") ?_ | refine d_mulL1 (by constructor) (by omega) ?_
    refine ja_cons ?_
    refine je_ix ?_
    refine je_name 5 rfl rfl ?_
    refine je_int ?_
    first | refine d_ixT rfl ?_ | refine d_ixB2 ?_
    refine ja_nil ?_
    refine ⟨by walk_at "lens", ?_⟩
    rw [Bd.tv_mulS]
    have hok2 := Bd.ok_mulS (q := ([1, 6] : List Int).getD (c_ / 2 % 2).toNat 0) hb1 (by omega) (by omega) (by omega)
    have hsm2 : z = 0 → smallB (b1.mulS (([1, 6] : List Int).getD (c_ / 2 % 2).toNat 0)) := fun q => mulS_small (hm1 q)
    generalize b1.mulS (([1, 6] : List Int).getD (c_ / 2 % 2).toNat 0) = b2 at *
    have e1 := Int.emod_nonneg c_ (show (bs.length : Int) ≠ 0 by omega)
    have e2 := Int.emod_lt_of_pos c_ (show 0 < (bs.length : Int) by omega)
    refine jb_cons (js_set 6 c rfl ?_)
    refine je_mod ?_
    refine je_name 3 rfl rfl ?_
    refine je_cB call_lenA T.m_len PySem.boot_len ?_
    refine ja_cons ?_
    refine je_name 1 rfl rfl ?_
    refine ja_nil ?_
    first | refine d_lenM (by walk_at "sq") ?_ | refine d_lenL (by walk_at "sq") ?_ | refine d_lenT ?_ | refine d_lenS (by walk_at "lens") ?_
    refine d_modI (by first | decide | omega) ?_
    obtain ⟨k0, ek⟩ : ∃ k0 : Nat, c_ % (bs.length : Int) = (k0 : Int) := ⟨(c_ % (bs.length : Int)).toNat, by omega⟩
    have hk0 : k0 < bs.length := by omega
    rw [ek]
    rcases hbr : brokenF b2 vs with _ | p
    ·
      
      refine jb_cons (js_if ?_)
      refine jt_isnot ?_
      refine je_call c F__law_first (by decide) ?_
      refine ja_cons ?_
      refine je_name 5 rfl rfl ?_
      refine ja_cons ?_
      refine je_name 2 rfl rfl ?_
      refine ja_nil ?_
      refine ⟨b2, vs, rfl, hok2, by have := B.vlen; omega, ?_⟩
      rw [first_eq hv.pos, hbr]
      refine je_non ?_
      refine d_isnotN ?_
      refine ⟨_, rfl, ?_⟩
      refine ⟨fun h2 => absurd h2 (by decide), fun h2 => ?_⟩
      refine jb_nil ?_
      refine jb_cons (js_expr ?_)
      refine je_meth c ?_
      refine je_name 0 rfl rfl ?_
      refine ⟨_, _, _, _, _, .obj B.at_, bkF_no _ _ (by decide +kernel) (by decide +kernel), M_Book_change, by decide, ?_⟩
      refine ja_cons ?_
      refine je_name 6 rfl rfl ?_
      refine ja_cons ?_
      refine je_call c F__law_made (by decide) ?_
      refine ja_cons ?_
      refine je_name 5 rfl rfl ?_
      refine ja_nil ?_
      refine ⟨b2, rfl, hok2, fun a9 ha9 => ?_⟩
      have x9 : ExtM μ (updM μ a9 (.ins (b2.cls A) b2.flds)) := ext_new ha9
      have B9 := B.ext x9
      have hb9 : BdD A (updM μ a9 (.ins (b2.cls A) b2.flds)) (.obj a9) b2 := .obj updM_same
      refine ja_nil ?_
      refine ⟨bk, xs, bs, vs, _, _, some (k0 : Int), some b2, rfl, B9, .int _, .bd _ _ hb9 hok2, fun z => absurd z (by simp [goodB]; omega), fun _ z => (by cases z), fun k1 bd e1 hk1 e2 => ?_⟩
      cases e2
      obtain rfl : k0 = k1 := by have := Option.some.inj e1; omega
      refine ⟨fun p q => absurd (hbr.symm.trans q) (by simp), fun _ => ?_⟩
      have B10 := B9.change hk1 hb9 hok2
      refine jb_cons (js_ret ?_)
      refine je_add ?_
      refine je_add ?_
      refine je_slice ?_
      refine je_name 1 rfl rfl ?_
      refine je_name 6 rfl rfl ?_
      refine ⟨_, rfl, ?_⟩
      refine ⟨_, by constructor, ?_⟩
      try rw [cutD_map]
      refine (je_lst ?_ : _)
      refine ja_cons ?_
      refine je_name 5 rfl rfl ?_
      refine ja_nil ?_
      refine ⟨by walk_at "lens", ?_⟩
      rw [cutG_take (by omega)]
      refine d_addL (.lst _) (.lst _) (by rw [List.length_map, List.length_take, sizeLine_eq]; simp only [List.length_cons, List.length_nil]; omega) ?_
      refine je_slice ?_
      refine je_name 1 rfl rfl ?_
      refine je_add ?_
      refine je_name 6 rfl rfl ?_
      refine je_int ?_
      first | refine d_addI ?_ | refine d_addL (by constructor) (by constructor) (by walk_at "lens") ?_ | refine d_addS (by walk_at "lens") ?_ | refine d_addT (by walk_at "lens") ?_
      refine ⟨_, rfl, ?_⟩
      refine ⟨_, by constructor, ?_⟩
      try rw [cutD_map]
      rw [cutG_drop1 (by omega)]
      refine d_addL (.lst _) (.lst _) (by rw [List.length_append, List.length_map, List.length_map, List.length_take, List.length_drop, sizeLine_eq]; simp only [List.length_cons, List.length_nil]; omega) ?_
      rw [show [b2.tv] = [b2].map Bd.tv from rfl, ← List.map_append, ← List.map_append]
      exact hk _ _ _ B10 (fun b hb => (change_mem hb).elim (fun e => by rw [e]; exact brokenF_none.mp hbr) (hkp b)) (change_len hk1) fun hz hs b hb => (change_mem hb).elim (fun e => by rw [e]; exact hsm2 hz) (hs b)
    ·
      
      refine jb_cons (js_if ?_)
      refine jt_isnot ?_
      refine je_call c F__law_first (by decide) ?_
      refine ja_cons ?_
      refine je_name 5 rfl rfl ?_
      refine ja_cons ?_
      refine je_name 2 rfl rfl ?_
      refine ja_nil ?_
      refine ⟨b2, vs, rfl, hok2, by have := B.vlen; omega, ?_⟩
      rw [first_eq hv.pos, hbr]
      refine je_non ?_
      refine d_isnotN ?_
      refine ⟨_, rfl, ?_⟩
      refine ⟨fun h2 => ?_, fun h2 => absurd (show true = false from h2) (by decide)⟩
      refine jb_cons (js_ret ?_)
      refine je_name 1 rfl rfl ?_
      exact hk xs bs _ B hkp rfl fun _ h => h
theorem sc__law_ends : FnScope ["_law_begin", "_law_empty", "_law_full", "_law_k"] ["_law_begin"] (defScope s__law_ends) := ⟨rfl, rfl, rfl, by decide +kernel, rfl, by decide +kernel, by decide +kernel⟩
theorem ok__law_ends {f : Addr} {fd : FuncData} (F : Fun K "_law_ends" "_law_ends" s__law_ends f fd) (T : Txt K mg A) (F_Book : DMak Pg w K mg base 2 "Book" A.CBO (S_Book_init A) []) (F_Jar : DMak Pg w K mg base 2 "Jar" A.CJ (S_Jar_init A) []) (M_Book_put : DMet Pg w K mg base 5 A.CBO "put" (S_Book_put A) []) (M_Book_earliest : DMet Pg w K mg base 4 A.CBO "earliest" (S_Book_earliest A) []) : FnOk Pg w K mg base (L2.CX Pg w) 6 f fd ["_law_begin"] (toSp K (S__law_ends A)) := by
  refine fn_data F sc__law_ends (fun ds μ kd ke h => ?_) (fun cdv A_ outer s H E c ow ds μ kd ke h => ?_)
  · obtain ⟨t, rfl, ⟨ht0, ht1⟩, hk⟩ := h; rfl
  · obtain ⟨t, rfl, ⟨ht0, ht1⟩, hk⟩ := h
    refine jb_cons (js_set 1 c rfl ?_)
    refine je_make c F_Book (by decide) ?_
    refine ja_cons ?_
    refine (je_lst ?_ : _)
    refine ja_nil ?_
    refine ⟨by walk_at "lens", ?_⟩
    refine ja_nil ?_
    refine fun be hbe => ⟨be, _, [], [], rfl, updM_same, .lst _, .nil, by rw [sizeLine_eq]; simp, fun _ => ⟨rfl, .inl ?_⟩, fun z => absurd z (by decide)⟩
    rw [updM_updM]
    have E0 : BookOk A (updM μ be (.ins A.CBO (bkF [] []))) be [] [] [] := ⟨updM_same, .nil, fun b hb => (nomatch hb), by decide, by decide⟩
    generalize updM μ be (.ins A.CBO (bkF [] [])) = S0 at *
    refine jb_cons (js_set 2 c rfl ?_)
    refine je_make c F_Book (by decide) ?_
    refine ja_cons ?_
    refine (je_lst ?_ : _)
    refine ja_cons ?_
    refine je_make c F_Jar (by decide) ?_
    refine ja_cons ?_
    refine je_int ?_
    refine ja_cons ?_
    refine je_int ?_
    refine ja_nil ?_
    refine fun b_ hb_ => ⟨_, 40, 1, rfl, updM_same, ⟨by decide, by decide, by decide⟩, rfl, .inr ⟨_, _, updM_same, ?_⟩⟩
    rw [updM_updM, delM_updM hb_]
    have oF : (Bd.jar 40 1).ok := ⟨by decide, by decide, by decide⟩
    refine ja_nil ?_
    refine ⟨by walk_at "lens", ?_⟩
    refine ja_nil ?_
    refine fun bf hbf => ⟨bf, _, [.ins A.CJ (jarF 40 1)], [some (.jar 40 1)], rfl, updM_same, .lst _, .cons (.bd _ _ (.ins _ _) oF) .nil, by rw [sizeLine_eq]; simp, fun _ => ⟨rfl, .inl ?_⟩, fun z => absurd z (by decide)⟩
    rw [updM_updM]
    have hne : be ≠ bf := ne_ofM E0.at_ hbf
    have F0 : BookOk A (updM S0 bf (.ins A.CBO (bkF [.ins A.CJ (jarF 40 1)] []))) bf [.ins A.CJ (jarF 40 1)] [Bd.jar 40 1] [] := ⟨updM_same, .cons (.ins _ _) .nil, fun b hb => by cases List.mem_singleton.mp hb; exact oF, by decide, by decide⟩
    replace E0 := E0.ext (ext_new (o := .ins A.CBO (bkF [.ins A.CJ (jarF 40 1)] [])) hbf)
    generalize updM S0 bf (.ins A.CBO (bkF [.ins A.CJ (jarF 40 1)] [])) = S1 at *
    refine jb_cons (js_forT 3 c.calm ow (pg_name (i := 3) c.nd rfl (by first | exact Or.inl rfl | exact Or.inr rfl)) ?_)
    refine ji_range1 T.m_range ?_
    refine ja_cons ?_
    refine je_int ?_
    refine ja_nil ?_
    refine ⟨_, rfl, by omega, by omega, ?_⟩
    refine ⟨fun j e μ2 => e = [some (.int t), some (.obj be), some (.obj bf), none] ∧ BookOk A μ2 be [] [] (List.replicate j (t, (5 : Int))) ∧ BookOk A μ2 bf [.ins A.CJ (jarF 40 1)] [Bd.jar 40 1] (List.replicate j (t, (1 : Int))) ∧ j ≤ 40, ?_, fun _ _ _ _ => trivial, fun j x e μ2 hx iv => ?_, fun e μ2 iv n' hle => ?_⟩
    · exact ⟨_, LeE.refl _, rfl, E0, F0, by omega⟩
    ·
      obtain ⟨rfl, B, BB, hj40⟩ := iv
      obtain ⟨rfl, hj⟩ := rng_item0 hx
      replace hj40 : j < 40 := by omega
      refine jb_cons (js_expr ?_)
      refine je_meth c ?_
      refine je_name 1 rfl rfl ?_
      refine ⟨_, _, _, _, _, .obj B.at_, bkF_no _ _ (by decide +kernel) (by decide +kernel), M_Book_put, by decide, ?_⟩
      refine ja_cons ?_
      refine je_name 0 rfl rfl ?_
      refine ja_cons ?_
      refine je_int ?_
      refine ja_nil ?_
      refine ⟨be, _, [], List.replicate j (t, (5 : Int)), _, _, some t, some (5 : Int), rfl, B, .int _, .int _, fun z => absurd z (by simp [goodB]; try omega), fun _ z => absurd z (by simp [goodB]; try omega), fun t2 c2 _ _ e1 e2 => ?_⟩
      cases e1
      cases e2
      refine ⟨fun z => absurd z (by rw [List.length_replicate]; omega), fun _ => ⟨fun k p z => absurd (((show brkOf [] (withV (List.replicate j (t, (5 : Int))) t 5) = none from rfl)).symm.trans z) (by simp), fun _ => ?_⟩⟩
      have B2 := B.put (ws := withV (List.replicate j (t, (5 : Int))) t (5 : Int)) (by rw [with_rep, List.length_replicate]; omega)
      rw [with_rep] at B2 ⊢
      replace BB := BB.other (o := .ins A.CBO (bkF [] (List.replicate (j + 1) (t, (5 : Int))))) hne.symm B.at_
      clear B
      refine jb_cons (js_expr ?_)
      refine je_meth c ?_
      refine je_name 2 rfl rfl ?_
      refine ⟨_, _, _, _, _, .obj BB.at_, bkF_no _ _ (by decide +kernel) (by decide +kernel), M_Book_put, by decide, ?_⟩
      refine ja_cons ?_
      refine je_name 0 rfl rfl ?_
      refine ja_cons ?_
      refine je_int ?_
      refine ja_nil ?_
      refine ⟨bf, _, [Bd.jar 40 1], List.replicate j (t, (1 : Int)), _, _, some t, some (1 : Int), rfl, BB, .int _, .int _, fun z => absurd z (by simp [goodB]; try omega), fun _ z => absurd z (by simp [goodB]; try omega), fun t2 c2 _ _ e1 e2 => ?_⟩
      cases e1
      cases e2
      refine ⟨fun z => absurd z (by rw [List.length_replicate]; omega), fun _ => ⟨fun k p z => absurd ((good_brk.mp (fun b hb => by cases List.mem_singleton.mp hb; rw [with_rep]; exact rep_keep (by omega))).symm.trans z) (by simp), fun _ => ?_⟩⟩
      have BB2 := BB.put (ws := withV (List.replicate j (t, (1 : Int))) t (1 : Int)) (by rw [with_rep, List.length_replicate]; omega)
      rw [with_rep] at BB2 ⊢
      replace B2 := B2.other (o := .ins A.CBO (bkF [.ins A.CJ (jarF 40 1)] (List.replicate (j + 1) (t, (1 : Int))))) hne BB.at_
      refine jb_nil ?_
      refine ⟨_, ?_, rfl, B2, BB2, by omega⟩
      walk_at "le"
    obtain ⟨rfl, E1, F1, _⟩ := iv
    refine JB.le ?_ hle
    rw [rng_len, show ((40 : Int)).toNat = 40 from rfl] at E1 F1
    have hv40 := rep_vsok ht0 (show t ≤ 1000000000000 by omega) 40
    obtain ⟨n, r, hE, hr⟩ := ear_all (bs := [Bd.jar 40 1]) (c := 3) hv40 (by decide) (fun b hb => by cases List.mem_singleton.mp hb; exact ⟨oF, rep_keep (Nat.le_refl 40)⟩) t
    obtain rfl := least_uniq hr (full_least t)
    refine jb_cons (js_ret ?_)
    apply je_andP
    · refine je_eq c ?_
      refine je_meth c ?_
      refine je_name 1 rfl rfl ?_
      refine ⟨_, _, _, _, _, .obj E1.at_, bkF_no _ _ (by decide +kernel) (by decide +kernel), M_Book_earliest, by decide, ?_⟩
      refine ja_cons (je_name 0 rfl rfl (ja_cons (je_int (ja_nil ?_))))
      refine ⟨be, _, [], List.replicate 40 (t, (5 : Int)), _, _, some (t), some (9), rfl, E1, .int _, .int _, fun z => absurd z (by simp [goodB]; try omega), fun _ z => absurd z (by simp [goodB]; try omega), fun t2 c2 _ _ e1 e2 => ?_⟩
      cases e1
      cases e2
      refine ⟨0, some t, .inr ⟨rfl, rfl⟩, ?_⟩
      refine je_name 0 rfl rfl (d_eqI ?_)
      exact ⟨rfl, rfl⟩
    · intro h1
      refine je_one ?_
      refine je_eq c ?_
      refine je_meth c ?_
      refine je_name 2 rfl rfl ?_
      refine ⟨_, _, _, _, _, .obj F1.at_, bkF_no _ _ (by decide +kernel) (by decide +kernel), M_Book_earliest, by decide, ?_⟩
      refine ja_cons (je_name 0 rfl rfl (ja_cons (je_int (ja_nil ?_))))
      refine ⟨bf, _, [Bd.jar 40 1], List.replicate 40 (t, (1 : Int)), _, _, some (t), some (3), rfl, F1, .int _, .int _, fun z => absurd z (by simp [goodB]; try omega), fun _ z => absurd z (by simp [goodB]; try omega), fun t2 c2 _ _ e1 e2 => ?_⟩
      cases e1
      cases e2
      refine ⟨n, some (t + 3), hE, ?_⟩
      refine je_add (je_name 0 rfl rfl (je_int (d_addI (d_eqI ?_))))
      exact ⟨rfl, rfl⟩
    · simpa using hk _
theorem sc_law : FnScope ["_law_script", "_law_small", "_law_scale_here", "_law_bounds", "_law_book", "_law_begin", "_law_visits", "_law_k", "_law_cell_here", "_law_moment", "_law_cost_here", "_law_more", "_law_at", "_law_found", "_law_bound_here"] ["_law_script"] (defScope s_law) := ⟨rfl, rfl, rfl, by decide +kernel, rfl, by decide +kernel, by decide +kernel⟩
theorem ok_law {f : Addr} {fd : FuncData} (F : Fun K "law" "law" s_law f fd) (T : Txt K mg A) (F_Book : DMak Pg w K mg base 2 "Book" A.CBO (S_Book_init A) []) (F__law_bound : DCal Pg w K mg base 1 "_law_bound" (S__law_bound A) []) (F__law_cell : DCal Pg w K mg base 1 "_law_cell" (S__law_cell A) []) (F__law_put : DCal Pg w K mg base 6 "_law_put" (S__law_put A) []) (F__law_ends : DCal Pg w K mg base 6 "_law_ends" (S__law_ends A) []) (F__law_scale : DCal Pg w K mg base 1 "_law_scale" (S__law_scale A) []) (F__law_wide : DCal Pg w K mg base 1 "_law_wide" (S__law_wide A) []) (F__law_made : DCal Pg w K mg base 4 "_law_made" (S__law_made A) []) (F__law_with : DCal Pg w K mg base 1 "_law_with" (S__law_with A) []) (F__law_changed : DCal Pg w K mg base 5 "_law_changed" (S__law_changed A) []) (F__law_cost : DCal Pg w K mg base 1 "_law_cost" (S__law_cost A) []) (F__law_asked : DCal Pg w K mg base 5 "_law_asked" (S__law_asked A) []) (F__law_one_by_one : DCal Pg w K mg base 4 "_law_one_by_one" (S__law_one_by_one A) []) (M_Book_visits : DMet Pg w K mg base 1 A.CBO "visits" (S_Book_visits A) []) (M_Book_drop : DMet Pg w K mg base 3 A.CBO "drop" (S_Book_drop A) []) (M_Book_earliest : DMet Pg w K mg base 4 A.CBO "earliest" (S_Book_earliest A) []) : FnOk Pg w K mg base (L2.CX Pg w) 7 f fd ["_law_script"] (toSp K (S_law A)) := by
  refine fn_data F sc_law (fun ds μ kd ke h => ?_) (fun cdv A_ outer s H E c ow ds μ kd ke h => ?_)
  · obtain ⟨ns, rfl, hns, rfl, hk⟩ := h; rfl
  · obtain ⟨ns, rfl, hns, rfl, hk⟩ := h
    refine jb_cons (js_set 1 c rfl ?_)
    refine je_eq c ?_
    refine je_mod ?_
    refine je_call c F__law_cell (by decide) ?_
    refine ja_cons ?_
    refine je_name 0 rfl rfl ?_
    refine ja_cons ?_
    refine je_int ?_
    refine ja_nil ?_
    refine ⟨ns, _, rfl, hns, ?_⟩
    refine je_int ?_
    refine d_modI (by first | decide | omega) ?_
    refine je_int ?_
    first | refine d_eqI ?_ | refine d_eqS ?_ | refine d_eqB ?_ | refine d_eqNI ?_
    generalize decide (m_law_cell ns 0 % 2 = 0) = sm at *
    obtain ⟨i01, hi01, h01a, h01b, h01c⟩ : ∃ i : Int, (if sm = true then (1 : Int) else 0) = i ∧ 0 ≤ i ∧ i ≤ 1 ∧ (sm = true → i = 1) := ⟨_, rfl, by cases sm <;> decide, by cases sm <;> decide, fun h => by rw [h]; rfl⟩
    refine jb_cons (js_set 2 c rfl ?_)
    refine je_ix ?_
    refine (je_lst ?_ : _)
    refine ja_cons ?_
    refine je_call c F__law_scale (by decide) ?_
    refine ja_cons ?_
    refine je_call c F__law_cell (by decide) ?_
    refine ja_cons ?_
    refine je_name 0 rfl rfl ?_
    refine ja_cons ?_
    refine je_int ?_
    refine ja_nil ?_
    refine ⟨ns, _, rfl, hns, ?_⟩
    refine ja_nil ?_
    refine ⟨_, rfl, ?_⟩
    refine ja_cons ?_
    refine je_int ?_
    refine ja_nil ?_
    refine ⟨by walk_at "lens", ?_⟩
    refine je_cT call_int1 T.m_int PyProof.Rows.boot_int ?_
    refine ja_cons ?_
    refine je_name 1 rfl rfl ?_
    refine ja_nil ?_
    (refine d_intB ?_; rw [hi01])
    refine d_ixInts [(m_law_scale (m_law_cell ns 8)), 1] (.lst _) (by walk_at "ix") (by walk_at "ix") ?_
    have hz : 1 ≤ ([m_law_scale (m_law_cell ns 8), 1] : List Int).getD i01.toNat 0 ∧ ([m_law_scale (m_law_cell ns 8), 1] : List Int).getD i01.toNat 0 ≤ 40000000 := getD_all (P := fun x => 1 ≤ x ∧ x ≤ 40000000) (by intro x hx; simp only [List.mem_cons, List.not_mem_nil, or_false] at hx; rcases hx with rfl | rfl; exact scale_ok _; exact ⟨by omega, by omega⟩) (by simp; omega)
    generalize ([m_law_scale (m_law_cell ns 8), 1] : List Int).getD i01.toNat 0 = z at *
    refine jb_cons (js_set 3 c rfl ?_)
    refine je_lcG (x := "_law_k") 7 c.calm c.nd (blkOk_by (N := ["_law_script", "_law_small", "_law_scale_here", "_law_bounds", "_law_book", "_law_begin", "_law_visits", "_law_k", "_law_cell_here", "_law_moment", "_law_cost_here", "_law_more", "_law_at", "_law_found", "_law_bound_here"]) (sc := defScope s_law) (by decide +kernel)) (fun _ _ _ _ _ => pg_name (i := 7) c.nd rfl (Or.inl rfl)) ?_
    refine ji_range1 T.m_range ?_
    refine ja_cons ?_
    refine je_add ?_
    refine je_int ?_
    refine je_mod ?_
    refine je_call c F__law_cell (by decide) ?_
    refine ja_cons ?_
    refine je_name 0 rfl rfl ?_
    refine ja_cons ?_
    refine je_int ?_
    refine ja_nil ?_
    refine ⟨ns, _, rfl, hns, ?_⟩
    refine je_int ?_
    refine d_modI (by first | decide | omega) ?_
    first | refine d_addI ?_ | refine d_addL (by constructor) (by constructor) (by walk_at "lens") ?_ | refine d_addS (by walk_at "lens") ?_ | refine d_addT (by walk_at "lens") ?_
    refine ja_nil ?_
    refine ⟨_, rfl, by omega, by omega, ?_⟩
    refine lc_map (fun i : Nat => Dv.int (0 + (i : Int))) (List.range (1 + m_law_cell ns 5 % 4).toNat) (fun (i : Nat) => some (m_law_bound (m_law_cell ns (1 + (0 + (i : Int)))) z).tv) rfl trivial (by rw [sizeLine_eq, List.length_range]; omega) (fun j x μ' hx hμ => ?_) ?_
    ·
      intro s1 H1 C1 cl1 fp1
      refine ⟨fun _ s2 H2 C2 cl2 fp2 => ?_, fun z => nomatch z⟩
      
      refine je_call c.blk F__law_bound (by decide) ?_
      refine ja_cons ?_
      refine je_call c.blk F__law_cell (by decide) ?_
      refine ja_cons ?_
      refine je_name 0 rfl rfl ?_
      refine ja_cons ?_
      refine je_add ?_
      refine je_int ?_
      refine je_name 7 rfl rfl ?_
      first | refine d_addI ?_ | refine d_addL (by constructor) (by constructor) (by walk_at "lens") ?_ | refine d_addS (by walk_at "lens") ?_ | refine d_addT (by walk_at "lens") ?_
      refine ja_nil ?_
      refine ⟨ns, _, rfl, hns, ?_⟩
      refine ja_cons ?_
      refine je_name 2 rfl rfl ?_
      refine ja_nil ?_
      refine ⟨_, _, rfl, cell_lo _ _, by omega, by omega, ?_⟩
      exact ⟨rfl, rfl⟩
    rw [fm_tvs]
    have hok0 := bds_ok (ns := ns) (o := 1) hz.1 hz.2 (1 + m_law_cell ns 5 % 4).toNat
    have hln0 := bds_len ns 1 z (1 + m_law_cell ns 5 % 4).toNat
    have hsm0 := bds_small (ns := ns) (o := 1) (z := z) (1 + m_law_cell ns 5 % 4).toNat
    generalize bds ns 1 z (1 + m_law_cell ns 5 % 4).toNat = bs0 at *
    have hl1 : 0 < bs0.length ∧ bs0.length ≤ 4 := by omega
    refine jb_cut (fun e μ2 => ∃ bs : List Bd, e = [some (.fro (ns.map Dv.int)), some (.bl sm), some (.int z), some (.lst (bs.map Bd.tv)), none, none, none, none, none, none, none, none, none, none, none] ∧ (∀ b ∈ bs, b.ok) ∧ 0 < bs.length ∧ bs.length ≤ 4 ∧ (sm = true → ∀ b ∈ bs, smallB b) ∧ μ2 = (fun _ => none)) (js_if ?_) ?_
    ·
      
      refine jt_not ?_
      refine jt_val ?_
      refine je_name 1 rfl rfl ?_
      refine ⟨_, rfl, ?_⟩
      refine ⟨fun h1 => ?_, fun h1 => ?_⟩
      ·
        refine jb_cons (js_set 3 c rfl ?_)
        refine je_lcG (x := "_law_k") 7 c.calm c.nd (blkOk_by (N := ["_law_script", "_law_small", "_law_scale_here", "_law_bounds", "_law_book", "_law_begin", "_law_visits", "_law_k", "_law_cell_here", "_law_moment", "_law_cost_here", "_law_more", "_law_at", "_law_found", "_law_bound_here"]) (sc := defScope s_law) (by decide +kernel)) (fun _ _ _ _ _ => pg_name (i := 7) c.nd rfl (Or.inl rfl)) ?_
        refine ji_range1 T.m_range ?_
        refine ja_cons ?_
        refine je_cB call_lenA T.m_len PySem.boot_len ?_
        refine ja_cons ?_
        refine je_name 3 rfl rfl ?_
        refine ja_nil ?_
        first | refine d_lenM (by walk_at "sq") ?_ | refine d_lenL (by walk_at "sq") ?_ | refine d_lenT ?_ | refine d_lenS (by walk_at "lens") ?_
        refine ja_nil ?_
        refine ⟨_, rfl, by omega, by omega, ?_⟩
        refine lc_map (fun i : Nat => Dv.int (0 + (i : Int))) (List.range bs0.length) (fun (i : Nat) => some (m_wide (m_law_cell ns (60 + (0 + (i : Int)))) (bs0.getD i (.jar 1 0))).tv) rfl trivial (by rw [sizeLine_eq, List.length_range]; omega) (fun j x μ' hx hμ => ?_) ?_
        ·
          intro s1 H1 C1 cl1 fp1
          refine ⟨fun _ s2 H2 C2 cl2 fp2 => ?_, fun z => nomatch z⟩
          have hxl : x < bs0.length := List.mem_range.mp (List.mem_of_getElem? hx)
          refine je_call c.blk F__law_wide (by decide) ?_
          refine ja_cons ?_
          refine je_ix ?_
          refine je_name 3 rfl rfl ?_
          refine je_name 7 rfl rfl ?_
          refine d_ixMap Bd.tv bs0 (.jar 1 0) (.lst _) (by omega) (by omega) ?_
          rw [show (0 + (x : Int)).toNat = x by omega]
          refine ja_cons ?_
          refine je_call c.blk F__law_cell (by decide) ?_
          refine ja_cons ?_
          refine je_name 0 rfl rfl ?_
          refine ja_cons ?_
          refine je_add ?_
          refine je_int ?_
          refine je_name 7 rfl rfl ?_
          first | refine d_addI ?_ | refine d_addL (by constructor) (by constructor) (by walk_at "lens") ?_ | refine d_addS (by walk_at "lens") ?_ | refine d_addT (by walk_at "lens") ?_
          refine ja_nil ?_
          refine ⟨ns, _, rfl, hns, ?_⟩
          refine ja_nil ?_
          refine ⟨_, _, rfl, cell_lo _ _, ?_⟩
          exact ⟨rfl, rfl⟩
        rw [fm_tvG (fun (i : Nat) => m_wide (m_law_cell ns (60 + (0 + (i : Int)))) (bs0.getD i (.jar 1 0)))]
        refine jb_nil ?_
        exact ⟨_, LeE.refl _, (List.range bs0.length).map (fun (i : Nat) => m_wide (m_law_cell ns (60 + (0 + (i : Int)))) (bs0.getD i (.jar 1 0))), rfl, fun b hb => by
          obtain ⟨i, hi, rfl⟩ := List.mem_map.mp hb
          exact wide_ok (cell_lo _ _) (getD_allG hok0 (List.mem_range.mp hi)), by rw [List.length_map, List.length_range]; exact hl1.1, by rw [List.length_map, List.length_range]; exact hl1.2, fun q => absurd h1 (by rw [q]; decide), rfl⟩
      refine jb_nil ?_
      exact ⟨_, LeE.refl _, bs0, rfl, hok0, hl1.1, hl1.2, fun _ => hsm0, rfl⟩
    rintro e μ2 ⟨bs, rfl, ok, hb0, hbl, hsmall, rfl⟩
    refine jb_cons (js_set 4 c rfl ?_)
    refine je_make c F_Book (by decide) ?_
    refine ja_cons ?_
    refine je_lcG (x := "_law_bound_here") 14 c.calm c.nd (blkOk_by (N := ["_law_script", "_law_small", "_law_scale_here", "_law_bounds", "_law_book", "_law_begin", "_law_visits", "_law_k", "_law_cell_here", "_law_moment", "_law_cost_here", "_law_more", "_law_at", "_law_found", "_law_bound_here"]) (sc := defScope s_law) (by decide +kernel)) (fun _ _ _ _ _ => pg_name (i := 14) c.nd rfl (Or.inl rfl)) ?_
    refine ji_seq ?_
    refine je_name 3 rfl rfl ?_
    refine ⟨_, by walk_at "sq", ?_⟩
    refine lc_makeM Bd.tv (fun b => .ins (b.cls A) b.flds) bs rfl (.lst _) (by rw [sizeLine_eq]; omega) (fun x μ' hx hμ => ?_) ?_
    ·
      intro s1 H1 C1 cl1 fp1
      refine ⟨fun _ s2 H2 C2 cl2 fp2 => ?_, fun z => nomatch z⟩
      
      refine je_call c.blk F__law_made (by decide) ?_
      refine ja_cons ?_
      refine je_name 14 rfl rfl ?_
      refine ja_nil ?_
      refine ⟨x, rfl, ok x hx, fun a9 ha9 => ?_⟩
      exact ⟨a9, rfl, ha9, rfl⟩
    refine fun p as μ1 hp0 x1 hp hal has han => ?_
    have hd := asBds hal has
    refine ja_nil ?_
    refine fun bk hbk => ⟨bk, _, as.map Dv.obj, bs.map some, rfl, updM_same, .obj ((updM_ne (ne_ofM hp hbk)).trans hp), bthD_bds (hd.mono fun _ _ h => h.ext (ext_new hbk)) ok, by rw [List.length_map, sizeLine_eq]; omega, fun _ => ⟨rfl, .inl ?_⟩, fun z => absurd z (by rw [goodBs_some (by omega)]; decide)⟩
    rw [updM_updM]
    have hB : BookOk A (updM μ1 bk (.ins A.CBO (bkF (as.map Dv.obj) []))) bk (as.map Dv.obj) bs [] := ⟨updM_same, hd.mono fun _ _ h => h.ext (ext_new hbk), ok, hbl, Nat.zero_le _⟩
    generalize updM μ1 bk (.ins A.CBO (bkF (as.map Dv.obj) [])) = S at *
    refine jb_cons (js_set 5 c rfl ?_)
    refine je_ix ?_
    refine (je_lst ?_ : _)
    refine ja_cons ?_
    refine je_int ?_
    refine ja_cons ?_
    refine je_sub ?_
    refine je_pow ?_
    refine je_int ?_
    refine je_int ?_
    refine d_powE (v := 1000000000000) ⟨by decide, by decide, by decide⟩ rfl ?_
    refine je_int ?_
    refine d_subI ?_
    refine ja_cons ?_
    refine je_call c F__law_cell (by decide) ?_
    refine ja_cons ?_
    refine je_name 0 rfl rfl ?_
    refine ja_cons ?_
    refine je_int ?_
    refine ja_nil ?_
    refine ⟨ns, _, rfl, hns, ?_⟩
    refine ja_nil ?_
    refine ⟨by walk_at "lens", ?_⟩
    refine je_mod ?_
    refine je_call c F__law_cell (by decide) ?_
    refine ja_cons ?_
    refine je_name 0 rfl rfl ?_
    refine ja_cons ?_
    refine je_int ?_
    refine ja_nil ?_
    refine ⟨ns, _, rfl, hns, ?_⟩
    refine je_int ?_
    refine d_modI (by first | decide | omega) ?_
    refine d_ixInts [3, (1000000000000 - 49), (m_law_cell ns 6)] (.lst _) (by walk_at "ix") (by walk_at "ix") ?_
    have hbg : 0 ≤ ([3, (1000000000000 - 49), (m_law_cell ns 6)] : List Int).getD (m_law_cell ns 7 % 3).toNat 0 ∧ ([3, (1000000000000 - 49), (m_law_cell ns 6)] : List Int).getD (m_law_cell ns 7 % 3).toNat 0 ≤ 999999999951 := getD_all (P := fun x => 0 ≤ x ∧ x ≤ 999999999951) (by intro x hx; simp only [List.mem_cons, List.not_mem_nil, or_false] at hx; have h1 := cell_lo ns 6; have h2 := cell_hi ns 6; rcases hx with rfl | rfl | rfl <;> omega) (by simp; omega)
    generalize ([3, (1000000000000 - 49), (m_law_cell ns 6)] : List Int).getD (m_law_cell ns 7 % 3).toNat 0 = bg at *
    refine jb_cons (js_set 6 c rfl ?_)
    refine (je_lst ?_ : _)
    refine ja_nil ?_
    refine ⟨by walk_at "lens", ?_⟩
    refine jb_cons (js_forT 7 c.calm ow (pg_name (i := 7) c.nd rfl (by first | exact Or.inl rfl | exact Or.inr rfl)) ?_)
    refine ji_range1 T.m_range ?_
    refine ja_cons ?_
    refine je_cB call_lenA T.m_len PySem.boot_len ?_
    refine ja_cons ?_
    refine je_name 0 rfl rfl ?_
    refine ja_nil ?_
    first | refine d_lenM (by walk_at "sq") ?_ | refine d_lenL (by walk_at "sq") ?_ | refine d_lenT ?_ | refine d_lenS (by walk_at "lens") ?_
    refine ja_nil ?_
    refine ⟨_, rfl, by omega, by omega, ?_⟩
    refine ⟨fun j e μ' => ∃ bs xs vs, e = [some (.fro (ns.map Dv.int)), some (.bl sm), some (.int z), some (.lst (bs.map Bd.tv)), some (.obj bk), some (.int bg), some (.lst (vs.map encV.dv)), none, none, none, none, none, none, none, none] ∧ BookOk A μ' bk xs bs vs ∧ KeepB bs vs ∧ VsOk vs ∧ vs.length ≤ 10 ∧ 0 < bs.length ∧ (sm = true → ∀ b ∈ bs, smallB b), ?_, fun _ _ _ _ => trivial, fun j x e μ' hx iv => ?_, fun e μ' iv n' hle => ?_⟩
    · exact ⟨_, LeE.refl _, bs, _, [], rfl, hB, fun b hb => rfl, ⟨List.Pairwise.nil, fun p hp => (nomatch hp)⟩, Nat.zero_le _, hb0, hsmall⟩
    ·
      obtain ⟨bs, xs, vs, rfl, B, hkp, hv, hvl, hb0, hsmall⟩ := iv
      obtain ⟨rfl, hj⟩ := rng_item0 hx
      refine jb_cons (js_set 8 c rfl ?_)
      refine je_call c F__law_cell (by decide) ?_
      refine ja_cons ?_
      refine je_name 0 rfl rfl ?_
      refine ja_cons ?_
      refine je_add ?_
      refine je_int ?_
      refine je_mul ?_
      refine je_int ?_
      refine je_name 7 rfl rfl ?_
      first | refine d_mulI (by walk_at "cm") ?_ | refine d_mulL1 (by constructor) (by omega) ?_
      first | refine d_addI ?_ | refine d_addL (by constructor) (by constructor) (by walk_at "lens") ?_ | refine d_addS (by walk_at "lens") ?_ | refine d_addT (by walk_at "lens") ?_
      refine ja_nil ?_
      refine ⟨ns, _, rfl, hns, ?_⟩
      have hcc := cell_lo ns (100 + 2 * (j : Int))
      generalize m_law_cell ns (100 + 2 * (j : Int)) = cc at *
      refine jb_cons (js_set 9 c rfl ?_)
      refine je_add ?_
      refine je_name 5 rfl rfl ?_
      refine je_mod ?_
      refine je_fdiv ?_
      refine je_name 8 rfl rfl ?_
      refine je_int ?_
      refine d_fdivI (by walk_at "cd") ?_
      refine je_int ?_
      refine d_modI (by first | decide | omega) ?_
      first | refine d_addI ?_ | refine d_addL (by constructor) (by constructor) (by walk_at "lens") ?_ | refine d_addS (by walk_at "lens") ?_ | refine d_addT (by walk_at "lens") ?_
      refine jb_cons (js_set 10 c rfl ?_)
      refine je_ix ?_
      refine (je_lst ?_ : _)
      refine ja_cons ?_
      refine je_call c F__law_cost (by decide) ?_
      refine ja_cons ?_
      refine je_fdiv ?_
      refine je_name 8 rfl rfl ?_
      refine je_int ?_
      refine d_fdivI (by walk_at "cd") ?_
      refine ja_cons ?_
      refine je_name 2 rfl rfl ?_
      refine ja_nil ?_
      refine ⟨_, _, rfl, by omega, by omega, by omega, ?_⟩
      refine ja_cons ?_
      refine je_add ?_
      refine je_int ?_
      refine je_mod ?_
      refine je_fdiv ?_
      refine je_name 8 rfl rfl ?_
      refine je_int ?_
      refine d_fdivI (by walk_at "cd") ?_
      refine je_int ?_
      refine d_modI (by first | decide | omega) ?_
      first | refine d_addI ?_ | refine d_addL (by constructor) (by constructor) (by walk_at "lens") ?_ | refine d_addS (by walk_at "lens") ?_ | refine d_addT (by walk_at "lens") ?_
      refine ja_nil ?_
      refine ⟨by walk_at "lens", ?_⟩
      refine je_cT call_int1 T.m_int PyProof.Rows.boot_int ?_
      refine ja_cons ?_
      refine je_name 1 rfl rfl ?_
      refine ja_nil ?_
      (refine d_intB ?_; rw [hi01])
      refine d_ixInts [m_law_cost (cc / 180) z, 1 + cc / 180 % 7] (.lst _) (by walk_at "ix") (by walk_at "ix") ?_
      have hc0 : 1 ≤ ([m_law_cost (cc / 180) z, 1 + cc / 180 % 7] : List Int).getD i01.toNat 0 ∧ ([m_law_cost (cc / 180) z, 1 + cc / 180 % 7] : List Int).getD i01.toNat 0 ≤ 1000000000 := getD_all (P := fun x => 1 ≤ x ∧ x ≤ 1000000000) (by intro x hx; simp only [List.mem_cons, List.not_mem_nil, or_false] at hx; have h1 := cost_ok (c := cc / 180) (z := z) (by omega) hz.1; rcases hx with rfl | rfl <;> omega) (by simp; omega)
      generalize ([m_law_cost (cc / 180) z, 1 + cc / 180 % 7] : List Int).getD i01.toNat 0 = c0 at *
      have ht0 : 0 ≤ bg + cc / 4 % 45 ∧ bg + cc / 4 % 45 ≤ 1000000000000 := by omega
      generalize bg + cc / 4 % 45 = t0 at *
      refine jb_cut (fun e μ2 => ∃ vs1, e = [some (.fro (ns.map Dv.int)), some (.bl sm), some (.int z), some (.lst (bs.map Bd.tv)), some (.obj bk), some (.int bg), some (.lst (vs1.map encV.dv)), some (.int (j : Int)), some (.int cc), some (.int t0), some (.int c0), none, none, none, none] ∧ BookOk A μ2 bk xs bs vs1 ∧ KeepB bs vs1 ∧ VsOk vs1 ∧ vs1.length ≤ 9) (js_if ?_) ?_
      ·
        
        refine jt_eq c ?_
        refine je_cB call_lenA T.m_len PySem.boot_len ?_
        refine ja_cons ?_
        refine je_name 6 rfl rfl ?_
        refine ja_nil ?_
        first | refine d_lenM (by walk_at "sq") ?_ | refine d_lenL (by walk_at "sq") ?_ | refine d_lenT ?_ | refine d_lenS (by walk_at "lens") ?_
        refine je_int ?_
        first | refine d_eqI ?_ | refine d_eqS ?_ | refine d_eqB ?_ | refine d_eqNI ?_
        refine ⟨_, rfl, ?_⟩
        refine ⟨fun h2 => ?_, fun h2 => ?_⟩
        ·
          obtain ⟨p1, p2, rs, rfl⟩ : ∃ p1 p2 rs, vs = (p1, p2) :: rs := by
            cases vs with
            | nil => simp at h2
            | cons p r => exact ⟨p.1, p.2, r, rfl⟩
          have hp12 := hv.2 (p1, p2) List.mem_cons_self
          have hp1 : 0 ≤ p1 ∧ p1 ≤ 1000000000000 := hp12.1
          have hp2 : 1 ≤ p2 ∧ p2 ≤ 1000000000 := hp12.2
          refine jb_cons (js_expr ?_)
          refine je_meth c ?_
          refine je_name 4 rfl rfl ?_
          refine ⟨_, _, _, _, _, .obj B.at_, bkF_no _ _ (by decide +kernel) (by decide +kernel), M_Book_drop, by decide, ?_⟩
          refine ja_cons ?_
          refine je_ix ?_
          refine je_ix ?_
          refine je_name 6 rfl rfl ?_
          refine je_int ?_
          refine d_ixMap encV.dv ((p1, p2) :: rs) (0, 0) (.lst _) (by omega) (by simp only [List.length_cons]; omega) ?_
          rw [show ((p1, p2) :: rs).getD (0 : Int).toNat (0, 0) = (p1, p2) from rfl]
          refine je_int ?_
          first | refine d_ixT rfl ?_ | refine d_ixB0 ?_
          refine ja_cons ?_
          refine je_ix ?_
          refine je_ix ?_
          refine je_name 6 rfl rfl ?_
          refine je_int ?_
          refine d_ixMap encV.dv ((p1, p2) :: rs) (0, 0) (.lst _) (by omega) (by simp only [List.length_cons]; omega) ?_
          rw [show ((p1, p2) :: rs).getD (0 : Int).toNat (0, 0) = (p1, p2) from rfl]
          refine je_int ?_
          first | refine d_ixT rfl ?_ | refine d_ixB1 ?_
          refine ja_nil ?_
          refine ⟨bk, _, bs, (p1, p2) :: rs, _, _, some p1, some p2, rfl, B, .int _, .int _, fun z => absurd z (by simp [goodB]; try omega), fun _ z => absurd z (by simp [goodB]; try omega), fun t2 c2 _ _ e1 e2 => ?_⟩
          cases e1
          cases e2
          refine ⟨fun z => absurd List.mem_cons_self z, fun _ => ?_⟩
          have B2 := B.put (ws := dropV ((p1, p2) :: rs) (p1, p2)) (by rw [dropV_tl rfl]; have := B.vlen; simp only [List.length_cons] at this; omega)
          rw [dropV_tl rfl] at B2 ⊢
          refine jb_cons (js_set 6 c rfl ?_)
          refine je_slice ?_
          refine je_name 6 rfl rfl ?_
          refine je_int ?_
          refine ⟨_, rfl, ?_⟩
          refine ⟨_, by constructor, ?_⟩
          try rw [cutD_map]
          refine jb_nil ?_
          rw [show cutG ((p1, p2) :: rs) (some 1) none = rs from cutG_drop (n := 1) (by simp)]
          exact ⟨_, LeE.refl _, rs, rfl, B2, fun b hb => BadS.sub hv.1 (show 0 ≤ p2 by omega) (hkp b hb), ⟨(List.pairwise_cons.mp hv.1).2, fun q hq => hv.2 q (List.mem_cons_of_mem _ hq)⟩, by simp only [List.length_cons] at hvl; omega⟩
        refine jb_nil ?_
        exact ⟨_, LeE.refl _, vs, rfl, B, hkp, hv, by have := of_decide_eq_false h2; omega⟩
      rintro e μ2 ⟨vs1, rfl, B, hkp, hv1, hvl1⟩
      refine jb_cut (fun e μ2 => ∃ vs2, e = [some (.fro (ns.map Dv.int)), some (.bl sm), some (.int z), some (.lst (bs.map Bd.tv)), some (.obj bk), some (.int bg), some (.lst (vs2.map encV.dv)), some (.int (j : Int)), some (.int cc), some (.int t0), some (.int c0), none, none, none, none] ∧ BookOk A μ2 bk xs bs vs2 ∧ KeepB bs vs2 ∧ VsOk vs2 ∧ vs2.length ≤ 10) (js_if ?_) ?_
      ·
        
        refine jt_val ?_
        refine je_call c F__law_put (by decide) ?_
        refine ja_cons ?_
        refine je_name 4 rfl rfl ?_
        refine ja_cons ?_
        refine je_name 9 rfl rfl ?_
        refine ja_cons ?_
        refine je_name 10 rfl rfl ?_
        refine ja_nil ?_
        refine ⟨bk, xs, bs, vs1, t0, c0, rfl, B, by omega, hc0, ht0, fun pb μp hp1 hp2 => ?_⟩
        refine ⟨_, rfl, ?_⟩
        refine ⟨fun h3 => ?_, fun h3 => ?_⟩
        ·
          refine jb_cons (js_set 6 c rfl ?_)
          refine je_call c F__law_with (by decide) ?_
          refine ja_cons ?_
          refine je_name 6 rfl rfl ?_
          refine ja_cons ?_
          refine je_name 9 rfl rfl ?_
          refine ja_cons ?_
          refine je_name 10 rfl rfl ?_
          refine ja_nil ?_
          refine ⟨vs1, t0, c0, rfl, by omega, hv1.1, ?_⟩
          refine jb_nil ?_
          obtain ⟨hbk, B2⟩ := hp1 h3
          exact ⟨_, LeE.refl _, withV vs1 t0 c0, rfl, B2, good_brk.mpr hbk, hv1.withV ⟨ht0, hc0⟩, by rw [withV_len]; omega⟩
        refine jb_nil ?_
        exact ⟨_, LeE.refl _, vs1, rfl, hp2 h3, hkp, hv1, by omega⟩
      rintro e μ2 ⟨vs2, rfl, B, hkp, hv2, hvl2⟩
      refine jb_cut (fun e μ2 => ∃ bs2 xs2, e = [some (.fro (ns.map Dv.int)), some (.bl sm), some (.int z), some (.lst (bs2.map Bd.tv)), some (.obj bk), some (.int bg), some (.lst (vs2.map encV.dv)), some (.int (j : Int)), some (.int cc), some (.int t0), some (.int c0), none, none, none, none] ∧ BookOk A μ2 bk xs2 bs2 vs2 ∧ KeepB bs2 vs2 ∧ bs2.length = bs.length ∧ (sm = true → ∀ b ∈ bs2, smallB b)) (js_if ?_) ?_
      ·
        
        refine jt_eq c ?_
        refine je_mod ?_
        refine je_fdiv ?_
        refine je_name 8 rfl rfl ?_
        refine je_int ?_
        refine d_fdivI (by walk_at "cd") ?_
        refine je_int ?_
        refine d_modI (by first | decide | omega) ?_
        refine je_int ?_
        first | refine d_eqI ?_ | refine d_eqS ?_ | refine d_eqB ?_ | refine d_eqNI ?_
        refine ⟨_, rfl, ?_⟩
        refine ⟨fun h4 => ?_, fun h4 => ?_⟩
        ·
          refine jb_cons (js_set 3 c rfl ?_)
          refine je_call c F__law_changed (by decide) ?_
          refine ja_cons ?_
          refine je_name 4 rfl rfl ?_
          refine ja_cons ?_
          refine je_name 3 rfl rfl ?_
          refine ja_cons ?_
          refine je_name 6 rfl rfl ?_
          refine ja_cons ?_
          refine je_call c F__law_cell (by decide) ?_
          refine ja_cons ?_
          refine je_name 0 rfl rfl ?_
          refine ja_cons ?_
          refine je_add ?_
          refine je_int ?_
          refine je_name 7 rfl rfl ?_
          first | refine d_addI ?_ | refine d_addL (by constructor) (by constructor) (by walk_at "lens") ?_ | refine d_addS (by walk_at "lens") ?_ | refine d_addT (by walk_at "lens") ?_
          refine ja_nil ?_
          refine ⟨ns, _, rfl, hns, ?_⟩
          refine ja_cons ?_
          refine je_ix ?_
          refine (je_lst ?_ : _)
          refine ja_cons ?_
          refine je_name 2 rfl rfl ?_
          refine ja_cons ?_
          refine je_int ?_
          refine ja_nil ?_
          refine ⟨by walk_at "lens", ?_⟩
          refine je_cT call_int1 T.m_int PyProof.Rows.boot_int ?_
          refine ja_cons ?_
          refine je_name 1 rfl rfl ?_
          refine ja_nil ?_
          (refine d_intB ?_; rw [hi01])
          refine d_ixInts [z, 0] (.lst _) (by walk_at "ix") (by walk_at "ix") ?_
          refine ja_nil ?_
          have hzi : 0 ≤ ([z, 0] : List Int).getD i01.toNat 0 ∧ ([z, 0] : List Int).getD i01.toNat 0 ≤ 40000000 := getD_all (P := fun x => 0 ≤ x ∧ x ≤ 40000000) (by intro x hx; simp only [List.mem_cons, List.not_mem_nil, or_false] at hx; rcases hx with rfl | rfl <;> omega) (by simp; omega)
          refine ⟨bk, xs, bs, vs2, _, _, rfl, B, hkp, hv2, hb0, cell_lo _ _, hzi, fun xs3 bs3 μ3 B3 hk3 hl3 hs3 => ?_⟩
          refine jb_nil ?_
          exact ⟨_, LeE.refl _, bs3, xs3, rfl, B3, hk3, hl3, fun q => hs3 (by rw [h01c q]; rfl) (hsmall q)⟩
        refine jb_nil ?_
        exact ⟨_, LeE.refl _, bs, xs, rfl, B, hkp, rfl, hsmall⟩
      rintro e μ2 ⟨bs2, xs2, rfl, B, hkp2, hl2, hsm2⟩
      refine jb_cons (js_if ?_)
      refine jt_to (decide ((j : Int) % 4 = 0) && decide ((j : Int) < 40)) ?_ ?_
      ·
        refine jt_w ?_
        apply jw_andP
        ·
          refine jt_eq c ?_
          refine je_mod ?_
          refine je_name 7 rfl rfl ?_
          refine je_int ?_
          refine d_modI (by first | decide | omega) ?_
          refine je_int ?_
          first | refine d_eqI ?_ | refine d_eqS ?_ | refine d_eqB ?_ | refine d_eqNI ?_
          refine ⟨_, rfl, ?_⟩
          exact ⟨rfl, rfl⟩
        ·
          intro h5
          refine jw_and1 ?_
          refine jt_lt ?_
          refine je_name 7 rfl rfl ?_
          refine je_int ?_
          refine d_cmpI ?_
          refine ⟨_, rfl, ?_⟩
          exact ⟨rfl, rfl⟩
        exact ⟨rfl, rfl⟩
      refine ⟨fun h6 => ?_, fun h6 => ?_⟩
      ·
        refine jb_cons (js_set 11 c rfl ?_)
        refine je_call c F__law_cell (by decide) ?_
        refine ja_cons ?_
        refine je_name 0 rfl rfl ?_
        refine ja_cons ?_
        refine je_add ?_
        refine je_int ?_
        refine je_mul ?_
        refine je_int ?_
        refine je_name 7 rfl rfl ?_
        first | refine d_mulI (by walk_at "cm") ?_ | refine d_mulL1 (by constructor) (by omega) ?_
        first | refine d_addI ?_ | refine d_addL (by constructor) (by constructor) (by walk_at "lens") ?_ | refine d_addS (by walk_at "lens") ?_ | refine d_addT (by walk_at "lens") ?_
        refine ja_nil ?_
        refine ⟨ns, _, rfl, hns, ?_⟩
        have hmm := cell_lo ns (101 + 2 * (j : Int))
        generalize m_law_cell ns (101 + 2 * (j : Int)) = mm at *
        refine jb_cons (js_set 10 c rfl ?_)
        refine je_ix ?_
        refine (je_lst ?_ : _)
        refine ja_cons ?_
        refine je_call c F__law_cost (by decide) ?_
        refine ja_cons ?_
        refine je_fdiv ?_
        refine je_name 11 rfl rfl ?_
        refine je_int ?_
        refine d_fdivI (by walk_at "cd") ?_
        refine ja_cons ?_
        refine je_name 2 rfl rfl ?_
        refine ja_nil ?_
        refine ⟨_, _, rfl, by omega, by omega, by omega, ?_⟩
        refine ja_cons ?_
        refine je_add ?_
        refine je_int ?_
        refine je_mod ?_
        refine je_fdiv ?_
        refine je_name 11 rfl rfl ?_
        refine je_int ?_
        refine d_fdivI (by walk_at "cd") ?_
        refine je_int ?_
        refine d_modI (by first | decide | omega) ?_
        first | refine d_addI ?_ | refine d_addL (by constructor) (by constructor) (by walk_at "lens") ?_ | refine d_addS (by walk_at "lens") ?_ | refine d_addT (by walk_at "lens") ?_
        refine ja_nil ?_
        refine ⟨by walk_at "lens", ?_⟩
        refine je_cT call_int1 T.m_int PyProof.Rows.boot_int ?_
        refine ja_cons ?_
        refine je_name 1 rfl rfl ?_
        refine ja_nil ?_
        (refine d_intB ?_; rw [hi01])
        refine d_ixInts [m_law_cost (mm / 50) z, 1 + mm / 50 % 9] (.lst _) (by walk_at "ix") (by walk_at "ix") ?_
        have hc1 : 1 ≤ ([m_law_cost (mm / 50) z, 1 + mm / 50 % 9] : List Int).getD i01.toNat 0 ∧ ([m_law_cost (mm / 50) z, 1 + mm / 50 % 9] : List Int).getD i01.toNat 0 ≤ 1000000000 := getD_all (P := fun x => 1 ≤ x ∧ x ≤ 1000000000) (by intro x hx; simp only [List.mem_cons, List.not_mem_nil, or_false] at hx; have h1 := cost_ok (c := mm / 50) (z := z) (by omega) hz.1; rcases hx with rfl | rfl <;> omega) (by simp; omega)
        have hc9 : sm = true → ([m_law_cost (mm / 50) z, 1 + mm / 50 % 9] : List Int).getD i01.toNat 0 ≤ 9 := fun q => by rw [h01c q]; show 1 + mm / 50 % 9 ≤ 9; omega
        generalize ([m_law_cost (mm / 50) z, 1 + mm / 50 % 9] : List Int).getD i01.toNat 0 = c1 at *
        refine jb_cons (js_set 12 c rfl ?_)
        refine je_add ?_
        refine je_name 5 rfl rfl ?_
        refine je_mod ?_
        refine je_name 11 rfl rfl ?_
        refine je_int ?_
        refine d_modI (by first | decide | omega) ?_
        first | refine d_addI ?_ | refine d_addL (by constructor) (by constructor) (by walk_at "lens") ?_ | refine d_addS (by walk_at "lens") ?_ | refine d_addT (by walk_at "lens") ?_
        have hta : 0 ≤ bg + mm % 50 ∧ bg + mm % 50 ≤ 1000000000000 := by omega
        generalize bg + mm % 50 = ta at *
        refine jb_cons (js_if ?_)
        refine jt_not ?_
        refine jt_val ?_
        refine je_call c F__law_asked (by decide) ?_
        refine ja_cons ?_
        refine je_name 4 rfl rfl ?_
        refine ja_cons ?_
        refine je_name 3 rfl rfl ?_
        refine ja_cons ?_
        refine je_name 6 rfl rfl ?_
        refine ja_cons ?_
        refine je_name 12 rfl rfl ?_
        refine ja_cons ?_
        refine je_name 10 rfl rfl ?_
        refine ja_nil ?_
        refine ⟨bk, xs2, bs2, vs2, _, _, rfl, B, hkp2, hvl2, hv2, hc1, hta, fun μ3 x3 => ?_⟩
        replace B := B.ext x3
        refine ⟨_, rfl, ?_⟩
        refine ⟨fun h7 => absurd h7 (by simp), fun h7 => ?_⟩
        refine jb_nil ?_
        have hkb : ∀ b ∈ bs2, b.ok ∧ brokenAll b vs2 = [] := fun b hb => ⟨B.ok b hb, hkp2 b hb⟩
        obtain ⟨n3, r3, hE3, hr3⟩ := ear_all hv2 (show (0 : Int) ≤ c1 by omega) hkb ta
        refine jb_cons (js_set 13 c rfl ?_)
        refine je_meth c ?_
        refine je_name 4 rfl rfl ?_
        refine ⟨_, _, _, _, _, .obj B.at_, bkF_no _ _ (by decide +kernel) (by decide +kernel), M_Book_earliest, by decide, ?_⟩
        refine ja_cons ?_
        refine je_name 12 rfl rfl ?_
        refine ja_cons ?_
        refine je_name 10 rfl rfl ?_
        refine ja_nil ?_
        refine ⟨bk, _, bs2, vs2, _, _, some (ta), some (c1), rfl, B, .int _, .int _, fun z => absurd z (by simp [goodB]; try omega), fun _ z => absurd z (by simp [goodB]; try omega), fun t2 c2 _ _ e1 e2 => ?_⟩
        cases e1
        cases e2
        refine ⟨n3, r3, hE3, ?_⟩
        refine jb_cons (js_if ?_)
        refine jt_w ?_
        apply jw_andP
        ·
          refine jt_val ?_
          refine je_name 1 rfl rfl ?_
          refine ⟨_, rfl, ?_⟩
          exact ⟨rfl, rfl⟩
        ·
          intro h8
          refine jw_and1 ?_
          refine jt_ne c ?_
          refine je_name 13 rfl rfl ?_
          refine je_call c F__law_one_by_one (by decide) ?_
          refine ja_cons ?_
          refine je_name 3 rfl rfl ?_
          refine ja_cons ?_
          refine je_name 6 rfl rfl ?_
          refine ja_cons ?_
          refine je_name 12 rfl rfl ?_
          refine ja_cons ?_
          refine je_name 10 rfl rfl ?_
          refine ja_nil ?_
          refine ⟨bs2, vs2, ta, c1, r3, rfl, hkb, B.len, hvl2, hv2, ⟨hc1.1, hc9 (by assumption)⟩, hsm2 (by assumption), hta, hr3, ?_⟩
          refine d_neOO r3 ?_
          refine ⟨_, rfl, ?_⟩
          exact ⟨rfl, rfl⟩
        refine ⟨fun h9 => absurd h9 (by simp), fun h9 => ?_⟩
        refine jb_nil ?_
        refine jb_nil ?_
        refine jb_nil ?_
        refine ⟨_, ?_, bs2, xs2, vs2, rfl, B, hkp2, hv2, hvl2, by omega, hsm2⟩
        walk_at "le"
      refine jb_nil ?_
      refine jb_nil ?_
      refine ⟨_, ?_, bs2, xs2, vs2, rfl, B, hkp2, hv2, hvl2, by omega, hsm2⟩
      walk_at "le"
    obtain ⟨bs, xs, vs, rfl, B, hkp, hv, hvl, hb0, hsmall⟩ := iv
    refine JB.le ?_ hle
    refine jb_cons (js_ret ?_)
    refine je_and ?_
    refine je_eq c ?_
    refine je_meth0 c ?_
    refine je_name 4 rfl rfl ?_
    refine ⟨_, _, _, _, _, .obj B.at_, bkF_no _ _ (by decide +kernel) (by decide +kernel), M_Book_visits, by decide, ?_⟩
    refine ⟨bk, _, vs, rfl, B.at_, fun qq hqq => ?_⟩
    refine je_name 6 rfl rfl ?_
    refine d_eqSE encV (by decide) (.obj updM_same) (.lst _) ?_
    refine ⟨_, rfl, fun _ => ?_, fun z => absurd z (by simp)⟩
    refine je_one ?_
    refine je_call c F__law_ends (by decide) ?_
    refine ja_cons (je_name 5 rfl rfl (ja_nil ?_))
    exact ⟨bg, rfl, ⟨hbg.1, by omega⟩, fun μ3 => hk μ3⟩
end
theorem all_mk {l : PySem.W.OpenLaw} {w : World} {K : Kf} {h : Heap} {mg : Str → Option Value} {fa aCGE aCNB aCNM aCNC aCNP aCNV aCFU aCBK aCJ aCW aCBO f0 f1 f2 f3 f4 f5 f6 f7 f8 f9 f10 f11 f12 f13 f14 f15 f16 f17 f18 f19 f20 f21 f22 f23 f24 f25 f26 f27 f28 f29 f30 f31 f32 f33 f34 f35 f36 f37 f38 f39 f40 : Addr} (X : K.In h) (G : h.Ns mainGlobals mg) (hfa : mg "law" = some (.ref fa))
    {od0 an0 od1 an1 od2 an2 od3 an3 od4 an4 od5 an5 od6 an6 od7 an7 od8 an8 od9 an9 od10 an10 od11 an11 od12 an12 od13 an13 od14 an14 od15 an15 od16 an16 od17 an17 od18 an18 od19 an19 od20 an20 od21 an21 od22 an22 od23 an23 od24 an24 od25 an25 od26 an26 od27 an27 od28 an28 od29 an29 od30 an30 od31 an31 od32 an32 od33 an33 od34 an34 od35 an35 od36 an36 od37 an37 od38 an38 od39 an39 od40 an40 : Option Addr} {sl0 sl1 sl2 sl3 sl4 sl5 sl6 sl7 sl8 sl9 sl10 sl11 sl12 sl13 sl14 sl15 sl16 sl17 sl18 sl19 sl20 sl21 sl22 sl23 sl24 sl25 sl26 sl27 sl28 sl29 sl30 sl31 sl32 sl33 sl34 sl35 sl36 sl37 sl38 sl39 sl40 : Array (Option Value)} {oc0 kV0 dc0 pm0 cd0 ct0 oc1 kV1 dc1 pm1 cd1 ct1 oc2 kV2 dc2 pm2 cd2 ct2 oc3 kV3 dc3 pm3 cd3 ct3 oc4 kV4 dc4 pm4 cd4 ct4 oc5 kV5 dc5 pm5 cd5 ct5 oc6 kV6 dc6 pm6 cd6 ct6 oc7 kV7 dc7 pm7 cd7 ct7 oc8 kV8 dc8 pm8 cd8 ct8 oc9 kV9 dc9 pm9 cd9 ct9 oc10 kV10 dc10 pm10 cd10 ct10 oc11 kV11 dc11 pm11 cd11 ct11 oc12 kV12 dc12 pm12 cd12 ct12 oc13 kV13 dc13 pm13 cd13 ct13 oc14 kV14 dc14 pm14 cd14 ct14 oc15 kV15 dc15 pm15 cd15 ct15 oc16 kV16 dc16 pm16 cd16 ct16 oc17 kV17 dc17 pm17 cd17 ct17 oc18 kV18 dc18 pm18 cd18 ct18 oc19 kV19 dc19 pm19 cd19 ct19 oc20 kV20 dc20 pm20 cd20 ct20 oc21 kV21 dc21 pm21 cd21 ct21 oc22 kV22 dc22 pm22 cd22 ct22 oc23 kV23 dc23 pm23 cd23 ct23 oc24 kV24 dc24 pm24 cd24 ct24 oc25 kV25 dc25 pm25 cd25 ct25 oc26 kV26 dc26 pm26 cd26 ct26 oc27 kV27 dc27 pm27 cd27 ct27 oc28 kV28 dc28 pm28 cd28 ct28 oc29 kV29 dc29 pm29 cd29 ct29 oc30 kV30 dc30 pm30 cd30 ct30 oc31 kV31 dc31 pm31 cd31 ct31 oc32 kV32 dc32 pm32 cd32 ct32 oc33 kV33 dc33 pm33 cd33 ct33 oc34 kV34 dc34 pm34 cd34 ct34 oc35 kV35 dc35 pm35 cd35 ct35 oc36 kV36 dc36 pm36 cd36 ct36 oc37 kV37 dc37 pm37 cd37 ct37 oc38 kV38 dc38 pm38 cd38 ct38 oc39 kV39 dc39 pm39 cd39 ct39 oc40 kV40 dc40 pm40 cd40 ct40 : Value} {tk_MOST_ROOM tk_MOST_FLOW tk_MOST_SPAN tk_MOST_MOMENT tk_MOST_COST tk_MOST_BOUNDS tk_MOST_VISITS : Tok}
    {nm_Broken qn_Broken : Str} {N_Broken : Addr} {bs_Broken : List Value} {sn_Broken : List Str} {su_Broken : List Value} {ab_Broken : Bool} {co_Broken : Option Bool} {dd_Broken : Option Addr} {u0_Broken u1_Broken u2_Broken u3_Broken u5_Broken : Option Value}
    (n_GateError : PySem.W.nsIn K mainGlobals "GateError" = some (some (.ref aCGE)))
    (n_NoBound : PySem.W.nsIn K mainGlobals "NoBound" = some (some (.ref aCNB)))
    (n_NoMoment : PySem.W.nsIn K mainGlobals "NoMoment" = some (some (.ref aCNM)))
    (n_NoCost : PySem.W.nsIn K mainGlobals "NoCost" = some (some (.ref aCNC)))
    (n_NoPlace : PySem.W.nsIn K mainGlobals "NoPlace" = some (some (.ref aCNP)))
    (n_NoVisit : PySem.W.nsIn K mainGlobals "NoVisit" = some (some (.ref aCNV)))
    (n_Full : PySem.W.nsIn K mainGlobals "Full" = some (some (.ref aCFU)))
    (n_Broken : PySem.W.nsIn K mainGlobals "Broken" = some (some (.ref aCBK)))
    (n_Jar : PySem.W.nsIn K mainGlobals "Jar" = some (some (.ref aCJ)))
    (n_Window : PySem.W.nsIn K mainGlobals "Window" = some (some (.ref aCW)))
    (n_Book : PySem.W.nsIn K mainGlobals "Book" = some (some (.ref aCBO)))
    (a0_Broken : PySem.W.findIn K (.ref aCBK) "__init__" = some (some (.ref f0)))
    (tf_Broken : PySem.W.typeIn K (.ref f0) = some (.type "function"))
    (i0 : PySem.W.isFn K (.ref f0) = true)
    (l0 : K.lookup f0 = some ⟨oc0, od0, .func (PySem.W.fnOf "__init__" "Broken.__init__" (defArgs s_Broken_init) (defBody s_Broken_init) (defScope s_Broken_init) .none kV0 dc0 pm0 an0 cd0 ct0), sl0⟩)
    (c0 : PySem.W.codeIn K cd0 "Broken.__init__" = true)
    (k0 : PySem.W.keepIn K (.ref f0) = true)
    (a1 : PySem.W.nsIn K mainGlobals "need_number" = some (some (.ref f1)))
    (l1 : K.lookup f1 = some ⟨oc1, od1, .func (PySem.W.fnOf "need_number" "need_number" (defArgs s_need_number) (defBody s_need_number) (defScope s_need_number) .none kV1 dc1 pm1 an1 cd1 ct1), sl1⟩)
    (c1 : PySem.W.codeIn K cd1 "need_number" = true)
    (k1 : PySem.W.keepIn K (.ref f1) = true)
    (a2_Jar : PySem.W.findIn K (.ref aCJ) "__init__" = some (some (.ref f2)))
    (i2 : PySem.W.isFn K (.ref f2) = true)
    (l2 : K.lookup f2 = some ⟨oc2, od2, .func (PySem.W.fnOf "__init__" "Jar.__init__" (defArgs s_Jar_init) (defBody s_Jar_init) (defScope s_Jar_init) .none kV2 dc2 pm2 an2 cd2 ct2), sl2⟩)
    (c2 : PySem.W.codeIn K cd2 "Jar.__init__" = true)
    (k2 : PySem.W.keepIn K (.ref f2) = true)
    (a3_Jar : PySem.W.findIn K (.ref aCJ) "room" = some (some (.ref f3)))
    (i3 : PySem.W.isFn K (.ref f3) = true)
    (l3 : K.lookup f3 = some ⟨oc3, od3, .func (PySem.W.fnOf "room" "Jar.room" (defArgs s_Jar_room) (defBody s_Jar_room) (defScope s_Jar_room) .none kV3 dc3 pm3 an3 cd3 ct3), sl3⟩)
    (c3 : PySem.W.codeIn K cd3 "Jar.room" = true)
    (k3 : PySem.W.keepIn K (.ref f3) = true)
    (a4_Window : PySem.W.findIn K (.ref aCW) "__init__" = some (some (.ref f4)))
    (i4 : PySem.W.isFn K (.ref f4) = true)
    (l4 : K.lookup f4 = some ⟨oc4, od4, .func (PySem.W.fnOf "__init__" "Window.__init__" (defArgs s_Window_init) (defBody s_Window_init) (defScope s_Window_init) .none kV4 dc4 pm4 an4 cd4 ct4), sl4⟩)
    (c4 : PySem.W.codeIn K cd4 "Window.__init__" = true)
    (k4 : PySem.W.keepIn K (.ref f4) = true)
    (a5_Window : PySem.W.findIn K (.ref aCW) "room" = some (some (.ref f5)))
    (i5 : PySem.W.isFn K (.ref f5) = true)
    (l5 : K.lookup f5 = some ⟨oc5, od5, .func (PySem.W.fnOf "room" "Window.room" (defArgs s_Window_room) (defBody s_Window_room) (defScope s_Window_room) .none kV5 dc5 pm5 an5 cd5 ct5), sl5⟩)
    (c5 : PySem.W.codeIn K cd5 "Window.room" = true)
    (k5 : PySem.W.keepIn K (.ref f5) = true)
    (a6 : PySem.W.nsIn K mainGlobals "need_bounds" = some (some (.ref f6)))
    (l6 : K.lookup f6 = some ⟨oc6, od6, .func (PySem.W.fnOf "need_bounds" "need_bounds" (defArgs s_need_bounds) (defBody s_need_bounds) (defScope s_need_bounds) .none kV6 dc6 pm6 an6 cd6 ct6), sl6⟩)
    (c6 : PySem.W.codeIn K cd6 "need_bounds" = true)
    (k6 : PySem.W.keepIn K (.ref f6) = true)
    (a7 : PySem.W.nsIn K mainGlobals "is_whole" = some (some (.ref f7)))
    (l7 : K.lookup f7 = some ⟨oc7, od7, .func (PySem.W.fnOf "is_whole" "is_whole" (defArgs s_is_whole) (defBody s_is_whole) (defScope s_is_whole) .none kV7 dc7 pm7 an7 cd7 ct7), sl7⟩)
    (c7 : PySem.W.codeIn K cd7 "is_whole" = true)
    (k7 : PySem.W.keepIn K (.ref f7) = true)
    (a8 : PySem.W.nsIn K mainGlobals "need_moment" = some (some (.ref f8)))
    (l8 : K.lookup f8 = some ⟨oc8, od8, .func (PySem.W.fnOf "need_moment" "need_moment" (defArgs s_need_moment) (defBody s_need_moment) (defScope s_need_moment) .none kV8 dc8 pm8 an8 cd8 ct8), sl8⟩)
    (c8 : PySem.W.codeIn K cd8 "need_moment" = true)
    (k8 : PySem.W.keepIn K (.ref f8) = true)
    (a9 : PySem.W.nsIn K mainGlobals "need_cost" = some (some (.ref f9)))
    (l9 : K.lookup f9 = some ⟨oc9, od9, .func (PySem.W.fnOf "need_cost" "need_cost" (defArgs s_need_cost) (defBody s_need_cost) (defScope s_need_cost) .none kV9 dc9 pm9 an9 cd9 ct9), sl9⟩)
    (c9 : PySem.W.codeIn K cd9 "need_cost" = true)
    (k9 : PySem.W.keepIn K (.ref f9) = true)
    (a10 : PySem.W.nsIn K mainGlobals "broken_all" = some (some (.ref f10)))
    (l10 : K.lookup f10 = some ⟨oc10, od10, .func (PySem.W.fnOf "broken_all" "broken_all" (defArgs s_broken_all) (defBody s_broken_all) (defScope s_broken_all) .none kV10 dc10 pm10 an10 cd10 ct10), sl10⟩)
    (c10 : PySem.W.codeIn K cd10 "broken_all" = true)
    (k10 : PySem.W.keepIn K (.ref f10) = true)
    (a11 : PySem.W.nsIn K mainGlobals "broken" = some (some (.ref f11)))
    (l11 : K.lookup f11 = some ⟨oc11, od11, .func (PySem.W.fnOf "broken" "broken" (defArgs s_broken) (defBody s_broken) (defScope s_broken) .none kV11 dc11 pm11 an11 cd11 ct11), sl11⟩)
    (c11 : PySem.W.codeIn K cd11 "broken" = true)
    (k11 : PySem.W.keepIn K (.ref f11) = true)
    (a12 : PySem.W.nsIn K mainGlobals "with_visit" = some (some (.ref f12)))
    (l12 : K.lookup f12 = some ⟨oc12, od12, .func (PySem.W.fnOf "with_visit" "with_visit" (defArgs s_with_visit) (defBody s_with_visit) (defScope s_with_visit) .none kV12 dc12 pm12 an12 cd12 ct12), sl12⟩)
    (c12 : PySem.W.codeIn K cd12 "with_visit" = true)
    (k12 : PySem.W.keepIn K (.ref f12) = true)
    (a13 : PySem.W.nsIn K mainGlobals "need_kept" = some (some (.ref f13)))
    (l13 : K.lookup f13 = some ⟨oc13, od13, .func (PySem.W.fnOf "need_kept" "need_kept" (defArgs s_need_kept) (defBody s_need_kept) (defScope s_need_kept) .none kV13 dc13 pm13 an13 cd13 ct13), sl13⟩)
    (c13 : PySem.W.codeIn K cd13 "need_kept" = true)
    (k13 : PySem.W.keepIn K (.ref f13) = true)
    (a14 : PySem.W.nsIn K mainGlobals "filled_at" = some (some (.ref f14)))
    (l14 : K.lookup f14 = some ⟨oc14, od14, .func (PySem.W.fnOf "filled_at" "filled_at" (defArgs s_filled_at) (defBody s_filled_at) (defScope s_filled_at) .none kV14 dc14 pm14 an14 cd14 ct14), sl14⟩)
    (c14 : PySem.W.codeIn K cd14 "filled_at" = true)
    (k14 : PySem.W.keepIn K (.ref f14) = true)
    (a15 : PySem.W.nsIn K mainGlobals "behind" = some (some (.ref f15)))
    (l15 : K.lookup f15 = some ⟨oc15, od15, .func (PySem.W.fnOf "behind" "behind" (defArgs s_behind) (defBody s_behind) (defScope s_behind) .none kV15 dc15 pm15 an15 cd15 ct15), sl15⟩)
    (c15 : PySem.W.codeIn K cd15 "behind" = true)
    (k15 : PySem.W.keepIn K (.ref f15) = true)
    (a16_Book : PySem.W.findIn K (.ref aCBO) "__init__" = some (some (.ref f16)))
    (i16 : PySem.W.isFn K (.ref f16) = true)
    (l16 : K.lookup f16 = some ⟨oc16, od16, .func (PySem.W.fnOf "__init__" "Book.__init__" (defArgs s_Book_init) (defBody s_Book_init) (defScope s_Book_init) .none kV16 dc16 pm16 an16 cd16 ct16), sl16⟩)
    (c16 : PySem.W.codeIn K cd16 "Book.__init__" = true)
    (k16 : PySem.W.keepIn K (.ref f16) = true)
    (a17_Book : PySem.W.findIn K (.ref aCBO) "visits" = some (some (.ref f17)))
    (i17 : PySem.W.isFn K (.ref f17) = true)
    (l17 : K.lookup f17 = some ⟨oc17, od17, .func (PySem.W.fnOf "visits" "Book.visits" (defArgs s_Book_visits) (defBody s_Book_visits) (defScope s_Book_visits) .none kV17 dc17 pm17 an17 cd17 ct17), sl17⟩)
    (c17 : PySem.W.codeIn K cd17 "Book.visits" = true)
    (k17 : PySem.W.keepIn K (.ref f17) = true)
    (a18_Book : PySem.W.findIn K (.ref aCBO) "put" = some (some (.ref f18)))
    (i18 : PySem.W.isFn K (.ref f18) = true)
    (l18 : K.lookup f18 = some ⟨oc18, od18, .func (PySem.W.fnOf "put" "Book.put" (defArgs s_Book_put) (defBody s_Book_put) (defScope s_Book_put) .none kV18 dc18 pm18 an18 cd18 ct18), sl18⟩)
    (c18 : PySem.W.codeIn K cd18 "Book.put" = true)
    (k18 : PySem.W.keepIn K (.ref f18) = true)
    (a19_Book : PySem.W.findIn K (.ref aCBO) "drop" = some (some (.ref f19)))
    (i19 : PySem.W.isFn K (.ref f19) = true)
    (l19 : K.lookup f19 = some ⟨oc19, od19, .func (PySem.W.fnOf "drop" "Book.drop" (defArgs s_Book_drop) (defBody s_Book_drop) (defScope s_Book_drop) .none kV19 dc19 pm19 an19 cd19 ct19), sl19⟩)
    (c19 : PySem.W.codeIn K cd19 "Book.drop" = true)
    (k19 : PySem.W.keepIn K (.ref f19) = true)
    (a20_Book : PySem.W.findIn K (.ref aCBO) "change" = some (some (.ref f20)))
    (i20 : PySem.W.isFn K (.ref f20) = true)
    (l20 : K.lookup f20 = some ⟨oc20, od20, .func (PySem.W.fnOf "change" "Book.change" (defArgs s_Book_change) (defBody s_Book_change) (defScope s_Book_change) .none kV20 dc20 pm20 an20 cd20 ct20), sl20⟩)
    (c20 : PySem.W.codeIn K cd20 "Book.change" = true)
    (k20 : PySem.W.keepIn K (.ref f20) = true)
    (a21_Book : PySem.W.findIn K (.ref aCBO) "next_try" = some (some (.ref f21)))
    (i21 : PySem.W.isFn K (.ref f21) = true)
    (l21 : K.lookup f21 = some ⟨oc21, od21, .func (PySem.W.fnOf "next_try" "Book.next_try" (defArgs s_Book_next_try) (defBody s_Book_next_try) (defScope s_Book_next_try) .none kV21 dc21 pm21 an21 cd21 ct21), sl21⟩)
    (c21 : PySem.W.codeIn K cd21 "Book.next_try" = true)
    (k21 : PySem.W.keepIn K (.ref f21) = true)
    (a22_Book : PySem.W.findIn K (.ref aCBO) "earliest" = some (some (.ref f22)))
    (i22 : PySem.W.isFn K (.ref f22) = true)
    (l22 : K.lookup f22 = some ⟨oc22, od22, .func (PySem.W.fnOf "earliest" "Book.earliest" (defArgs s_Book_earliest) (defBody s_Book_earliest) (defScope s_Book_earliest) .none kV22 dc22 pm22 an22 cd22 ct22), sl22⟩)
    (c22 : PySem.W.codeIn K cd22 "Book.earliest" = true)
    (k22 : PySem.W.keepIn K (.ref f22) = true)
    (a23 : PySem.W.nsIn K mainGlobals "_law_cell" = some (some (.ref f23)))
    (l23 : K.lookup f23 = some ⟨oc23, od23, .func (PySem.W.fnOf "_law_cell" "_law_cell" (defArgs s__law_cell) (defBody s__law_cell) (defScope s__law_cell) .none kV23 dc23 pm23 an23 cd23 ct23), sl23⟩)
    (c23 : PySem.W.codeIn K cd23 "_law_cell" = true)
    (k23 : PySem.W.keepIn K (.ref f23) = true)
    (a24 : PySem.W.nsIn K mainGlobals "_law_bound" = some (some (.ref f24)))
    (l24 : K.lookup f24 = some ⟨oc24, od24, .func (PySem.W.fnOf "_law_bound" "_law_bound" (defArgs s__law_bound) (defBody s__law_bound) (defScope s__law_bound) .none kV24 dc24 pm24 an24 cd24 ct24), sl24⟩)
    (c24 : PySem.W.codeIn K cd24 "_law_bound" = true)
    (k24 : PySem.W.keepIn K (.ref f24) = true)
    (a25 : PySem.W.nsIn K mainGlobals "_law_made" = some (some (.ref f25)))
    (l25 : K.lookup f25 = some ⟨oc25, od25, .func (PySem.W.fnOf "_law_made" "_law_made" (defArgs s__law_made) (defBody s__law_made) (defScope s__law_made) .none kV25 dc25 pm25 an25 cd25 ct25), sl25⟩)
    (c25 : PySem.W.codeIn K cd25 "_law_made" = true)
    (k25 : PySem.W.keepIn K (.ref f25) = true)
    (a26 : PySem.W.nsIn K mainGlobals "_law_room" = some (some (.ref f26)))
    (l26 : K.lookup f26 = some ⟨oc26, od26, .func (PySem.W.fnOf "_law_room" "_law_room" (defArgs s__law_room) (defBody s__law_room) (defScope s__law_room) .none kV26 dc26 pm26 an26 cd26 ct26), sl26⟩)
    (c26 : PySem.W.codeIn K cd26 "_law_room" = true)
    (k26 : PySem.W.keepIn K (.ref f26) = true)
    (a27 : PySem.W.nsIn K mainGlobals "_law_first" = some (some (.ref f27)))
    (l27 : K.lookup f27 = some ⟨oc27, od27, .func (PySem.W.fnOf "_law_first" "_law_first" (defArgs s__law_first) (defBody s__law_first) (defScope s__law_first) .none kV27 dc27 pm27 an27 cd27 ct27), sl27⟩)
    (c27 : PySem.W.codeIn K cd27 "_law_first" = true)
    (k27 : PySem.W.keepIn K (.ref f27) = true)
    (a28 : PySem.W.nsIn K mainGlobals "_law_breaks" = some (some (.ref f28)))
    (l28 : K.lookup f28 = some ⟨oc28, od28, .func (PySem.W.fnOf "_law_breaks" "_law_breaks" (defArgs s__law_breaks) (defBody s__law_breaks) (defScope s__law_breaks) .none kV28 dc28 pm28 an28 cd28 ct28), sl28⟩)
    (c28 : PySem.W.codeIn K cd28 "_law_breaks" = true)
    (k28 : PySem.W.keepIn K (.ref f28) = true)
    (a29 : PySem.W.nsIn K mainGlobals "_law_with" = some (some (.ref f29)))
    (l29 : K.lookup f29 = some ⟨oc29, od29, .func (PySem.W.fnOf "_law_with" "_law_with" (defArgs s__law_with) (defBody s__law_with) (defScope s__law_with) .none kV29 dc29 pm29 an29 cd29 ct29), sl29⟩)
    (c29 : PySem.W.codeIn K cd29 "_law_with" = true)
    (k29 : PySem.W.keepIn K (.ref f29) = true)
    (a30 : PySem.W.nsIn K mainGlobals "_law_cost" = some (some (.ref f30)))
    (l30 : K.lookup f30 = some ⟨oc30, od30, .func (PySem.W.fnOf "_law_cost" "_law_cost" (defArgs s__law_cost) (defBody s__law_cost) (defScope s__law_cost) .none kV30 dc30 pm30 an30 cd30 ct30), sl30⟩)
    (c30 : PySem.W.codeIn K cd30 "_law_cost" = true)
    (k30 : PySem.W.keepIn K (.ref f30) = true)
    (a31 : PySem.W.nsIn K mainGlobals "_law_scale" = some (some (.ref f31)))
    (l31 : K.lookup f31 = some ⟨oc31, od31, .func (PySem.W.fnOf "_law_scale" "_law_scale" (defArgs s__law_scale) (defBody s__law_scale) (defScope s__law_scale) .none kV31 dc31 pm31 an31 cd31 ct31), sl31⟩)
    (c31 : PySem.W.codeIn K cd31 "_law_scale" = true)
    (k31 : PySem.W.keepIn K (.ref f31) = true)
    (a32 : PySem.W.nsIn K mainGlobals "_law_begins" = some (some (.ref f32)))
    (l32 : K.lookup f32 = some ⟨oc32, od32, .func (PySem.W.fnOf "_law_begins" "_law_begins" (defArgs s__law_begins) (defBody s__law_begins) (defScope s__law_begins) .none kV32 dc32 pm32 an32 cd32 ct32), sl32⟩)
    (c32 : PySem.W.codeIn K cd32 "_law_begins" = true)
    (k32 : PySem.W.keepIn K (.ref f32) = true)
    (a33 : PySem.W.nsIn K mainGlobals "_law_earliest" = some (some (.ref f33)))
    (l33 : K.lookup f33 = some ⟨oc33, od33, .func (PySem.W.fnOf "_law_earliest" "_law_earliest" (defArgs s__law_earliest) (defBody s__law_earliest) (defScope s__law_earliest) .none kV33 dc33 pm33 an33 cd33 ct33), sl33⟩)
    (c33 : PySem.W.codeIn K cd33 "_law_earliest" = true)
    (k33 : PySem.W.keepIn K (.ref f33) = true)
    (a34 : PySem.W.nsIn K mainGlobals "_law_one_by_one" = some (some (.ref f34)))
    (l34 : K.lookup f34 = some ⟨oc34, od34, .func (PySem.W.fnOf "_law_one_by_one" "_law_one_by_one" (defArgs s__law_one_by_one) (defBody s__law_one_by_one) (defScope s__law_one_by_one) .none kV34 dc34 pm34 an34 cd34 ct34), sl34⟩)
    (c34 : PySem.W.codeIn K cd34 "_law_one_by_one" = true)
    (k34 : PySem.W.keepIn K (.ref f34) = true)
    (a35 : PySem.W.nsIn K mainGlobals "_law_asked" = some (some (.ref f35)))
    (l35 : K.lookup f35 = some ⟨oc35, od35, .func (PySem.W.fnOf "_law_asked" "_law_asked" (defArgs s__law_asked) (defBody s__law_asked) (defScope s__law_asked) .none kV35 dc35 pm35 an35 cd35 ct35), sl35⟩)
    (c35 : PySem.W.codeIn K cd35 "_law_asked" = true)
    (k35 : PySem.W.keepIn K (.ref f35) = true)
    (a36 : PySem.W.nsIn K mainGlobals "_law_put" = some (some (.ref f36)))
    (l36 : K.lookup f36 = some ⟨oc36, od36, .func (PySem.W.fnOf "_law_put" "_law_put" (defArgs s__law_put) (defBody s__law_put) (defScope s__law_put) .none kV36 dc36 pm36 an36 cd36 ct36), sl36⟩)
    (c36 : PySem.W.codeIn K cd36 "_law_put" = true)
    (k36 : PySem.W.keepIn K (.ref f36) = true)
    (a37 : PySem.W.nsIn K mainGlobals "_law_wide" = some (some (.ref f37)))
    (l37 : K.lookup f37 = some ⟨oc37, od37, .func (PySem.W.fnOf "_law_wide" "_law_wide" (defArgs s__law_wide) (defBody s__law_wide) (defScope s__law_wide) .none kV37 dc37 pm37 an37 cd37 ct37), sl37⟩)
    (c37 : PySem.W.codeIn K cd37 "_law_wide" = true)
    (k37 : PySem.W.keepIn K (.ref f37) = true)
    (a38 : PySem.W.nsIn K mainGlobals "_law_changed" = some (some (.ref f38)))
    (l38 : K.lookup f38 = some ⟨oc38, od38, .func (PySem.W.fnOf "_law_changed" "_law_changed" (defArgs s__law_changed) (defBody s__law_changed) (defScope s__law_changed) .none kV38 dc38 pm38 an38 cd38 ct38), sl38⟩)
    (c38 : PySem.W.codeIn K cd38 "_law_changed" = true)
    (k38 : PySem.W.keepIn K (.ref f38) = true)
    (a39 : PySem.W.nsIn K mainGlobals "_law_ends" = some (some (.ref f39)))
    (l39 : K.lookup f39 = some ⟨oc39, od39, .func (PySem.W.fnOf "_law_ends" "_law_ends" (defArgs s__law_ends) (defBody s__law_ends) (defScope s__law_ends) .none kV39 dc39 pm39 an39 cd39 ct39), sl39⟩)
    (c39 : PySem.W.codeIn K cd39 "_law_ends" = true)
    (k39 : PySem.W.keepIn K (.ref f39) = true)
    (a40 : PySem.W.nsIn K mainGlobals "law" = some (some (.ref f40)))
    (l40 : K.lookup f40 = some ⟨oc40, od40, .func (PySem.W.fnOf "law" "law" (defArgs s_law) (defBody s_law) (defScope s_law) .none kV40 dc40 pm40 an40 cd40 ct40), sl40⟩)
    (c40 : PySem.W.codeIn K cd40 "law" = true)
    (k40 : PySem.W.keepIn K (.ref f40) = true)
    (mk_Jar : PySem.W.makesIn K aCJ = true)
    (kc_Jar : PySem.W.keepIn K (.ref aCJ) = true)
    (mk_Window : PySem.W.makesIn K aCW = true)
    (kc_Window : PySem.W.keepIn K (.ref aCW) = true)
    (mk_Book : PySem.W.makesIn K aCBO = true)
    (kc_Book : PySem.W.keepIn K (.ref aCBO) = true)
    (pg_Jar : PySem.W.plainGet K aCJ Str.empty = true)
    (hd_Jar : PySem.W.hasDictIn K aCJ = true)
    (po_Jar : PySem.W.plainOver K aCJ = true)
    (sa_Jar : PySem.W.findIn K (.ref aCJ) "__setattr__" = some (some (.builtin "object.__setattr__")))
    (na_Jar_size : PySem.W.findIn K (.ref aCJ) "size" = some none)
    (na_Jar_flow : PySem.W.findIn K (.ref aCJ) "flow" = some none)
    (pg_Window : PySem.W.plainGet K aCW Str.empty = true)
    (hd_Window : PySem.W.hasDictIn K aCW = true)
    (po_Window : PySem.W.plainOver K aCW = true)
    (sa_Window : PySem.W.findIn K (.ref aCW) "__setattr__" = some (some (.builtin "object.__setattr__")))
    (na_Window_most : PySem.W.findIn K (.ref aCW) "most" = some none)
    (na_Window_span : PySem.W.findIn K (.ref aCW) "span" = some none)
    (pg_Book : PySem.W.plainGet K aCBO Str.empty = true)
    (hd_Book : PySem.W.hasDictIn K aCBO = true)
    (po_Book : PySem.W.plainOver K aCBO = true)
    (sa_Book : PySem.W.findIn K (.ref aCBO) "__setattr__" = some (some (.builtin "object.__setattr__")))
    (na_Book_limits : PySem.W.findIn K (.ref aCBO) "limits" = some none)
    (na_Book_rows : PySem.W.findIn K (.ref aCBO) "rows" = some none)
    (ic_Jar : PySem.W.findIn K (.ref aCJ) "__class__" = some (some (.builtin "object.__class__")))
    (im_Jar : PySem.W.mroIn K aCJ (.type "object") = some true)
    (ic_Window : PySem.W.findIn K (.ref aCW) "__class__" = some (some (.builtin "object.__class__")))
    (im_Window : PySem.W.mroIn K aCW (.type "object") = some true)
    (isn : PySem.W.specialIn K (.builtin "object.__class__") "__get__" = some (some (.builtin "getset_descriptor.__get__")))
    (ist : PySem.W.takesIn K (.builtin "object.__class__") = some true)
    (xq_GateError : PySem.W.excIn K aCGE [.type "ValueError", .type "Exception", .type "BaseException", .type "object"] "ValueError.__new__" = true)
    (xk_GateError : PySem.W.keepIn K (.ref aCGE) = true)
    (xb_GateError : PySem.W.subIn K (.ref aCGE) (.type "BaseException") = some true)
    (xt_GateError : PySem.W.typeIn K (.ref aCGE) = some (.type "type"))
    (eg_GateError : PySem.W.findIn K (.ref aCGE) "__getattribute__" = some (some (.builtin "BaseException.__getattribute__")))
    (ek_GateError : PySem.W.findIn K (.ref aCGE) "__getattr__" = some none)
    (ed_GateError : PySem.W.hasDictIn K aCGE = true)
    (ea_GateError : PySem.W.findIn K (.ref aCGE) "__class__" = some (some (.builtin "object.__class__")))
    (em_GateError : PySem.W.mroIn K aCGE (.type "object") = some true)
    (xq_NoBound : PySem.W.excIn K aCNB [.type "ValueError", .type "Exception", .type "BaseException", .type "object"] "ValueError.__new__" = true)
    (xk_NoBound : PySem.W.keepIn K (.ref aCNB) = true)
    (xb_NoBound : PySem.W.subIn K (.ref aCNB) (.type "BaseException") = some true)
    (xt_NoBound : PySem.W.typeIn K (.ref aCNB) = some (.type "type"))
    (eg_NoBound : PySem.W.findIn K (.ref aCNB) "__getattribute__" = some (some (.builtin "BaseException.__getattribute__")))
    (ek_NoBound : PySem.W.findIn K (.ref aCNB) "__getattr__" = some none)
    (ed_NoBound : PySem.W.hasDictIn K aCNB = true)
    (ea_NoBound : PySem.W.findIn K (.ref aCNB) "__class__" = some (some (.builtin "object.__class__")))
    (em_NoBound : PySem.W.mroIn K aCNB (.type "object") = some true)
    (xq_NoMoment : PySem.W.excIn K aCNM [.type "ValueError", .type "Exception", .type "BaseException", .type "object"] "ValueError.__new__" = true)
    (xk_NoMoment : PySem.W.keepIn K (.ref aCNM) = true)
    (xb_NoMoment : PySem.W.subIn K (.ref aCNM) (.type "BaseException") = some true)
    (xt_NoMoment : PySem.W.typeIn K (.ref aCNM) = some (.type "type"))
    (eg_NoMoment : PySem.W.findIn K (.ref aCNM) "__getattribute__" = some (some (.builtin "BaseException.__getattribute__")))
    (ek_NoMoment : PySem.W.findIn K (.ref aCNM) "__getattr__" = some none)
    (ed_NoMoment : PySem.W.hasDictIn K aCNM = true)
    (ea_NoMoment : PySem.W.findIn K (.ref aCNM) "__class__" = some (some (.builtin "object.__class__")))
    (em_NoMoment : PySem.W.mroIn K aCNM (.type "object") = some true)
    (xq_NoCost : PySem.W.excIn K aCNC [.type "ValueError", .type "Exception", .type "BaseException", .type "object"] "ValueError.__new__" = true)
    (xk_NoCost : PySem.W.keepIn K (.ref aCNC) = true)
    (xb_NoCost : PySem.W.subIn K (.ref aCNC) (.type "BaseException") = some true)
    (xt_NoCost : PySem.W.typeIn K (.ref aCNC) = some (.type "type"))
    (eg_NoCost : PySem.W.findIn K (.ref aCNC) "__getattribute__" = some (some (.builtin "BaseException.__getattribute__")))
    (ek_NoCost : PySem.W.findIn K (.ref aCNC) "__getattr__" = some none)
    (ed_NoCost : PySem.W.hasDictIn K aCNC = true)
    (ea_NoCost : PySem.W.findIn K (.ref aCNC) "__class__" = some (some (.builtin "object.__class__")))
    (em_NoCost : PySem.W.mroIn K aCNC (.type "object") = some true)
    (xq_NoPlace : PySem.W.excIn K aCNP [.type "ValueError", .type "Exception", .type "BaseException", .type "object"] "ValueError.__new__" = true)
    (xk_NoPlace : PySem.W.keepIn K (.ref aCNP) = true)
    (xb_NoPlace : PySem.W.subIn K (.ref aCNP) (.type "BaseException") = some true)
    (xt_NoPlace : PySem.W.typeIn K (.ref aCNP) = some (.type "type"))
    (eg_NoPlace : PySem.W.findIn K (.ref aCNP) "__getattribute__" = some (some (.builtin "BaseException.__getattribute__")))
    (ek_NoPlace : PySem.W.findIn K (.ref aCNP) "__getattr__" = some none)
    (ed_NoPlace : PySem.W.hasDictIn K aCNP = true)
    (ea_NoPlace : PySem.W.findIn K (.ref aCNP) "__class__" = some (some (.builtin "object.__class__")))
    (em_NoPlace : PySem.W.mroIn K aCNP (.type "object") = some true)
    (xq_NoVisit : PySem.W.excIn K aCNV [.type "ValueError", .type "Exception", .type "BaseException", .type "object"] "ValueError.__new__" = true)
    (xk_NoVisit : PySem.W.keepIn K (.ref aCNV) = true)
    (xb_NoVisit : PySem.W.subIn K (.ref aCNV) (.type "BaseException") = some true)
    (xt_NoVisit : PySem.W.typeIn K (.ref aCNV) = some (.type "type"))
    (eg_NoVisit : PySem.W.findIn K (.ref aCNV) "__getattribute__" = some (some (.builtin "BaseException.__getattribute__")))
    (ek_NoVisit : PySem.W.findIn K (.ref aCNV) "__getattr__" = some none)
    (ed_NoVisit : PySem.W.hasDictIn K aCNV = true)
    (ea_NoVisit : PySem.W.findIn K (.ref aCNV) "__class__" = some (some (.builtin "object.__class__")))
    (em_NoVisit : PySem.W.mroIn K aCNV (.type "object") = some true)
    (xq_Full : PySem.W.excIn K aCFU [.type "ValueError", .type "Exception", .type "BaseException", .type "object"] "ValueError.__new__" = true)
    (xk_Full : PySem.W.keepIn K (.ref aCFU) = true)
    (xb_Full : PySem.W.subIn K (.ref aCFU) (.type "BaseException") = some true)
    (xt_Full : PySem.W.typeIn K (.ref aCFU) = some (.type "type"))
    (eg_Full : PySem.W.findIn K (.ref aCFU) "__getattribute__" = some (some (.builtin "BaseException.__getattribute__")))
    (ek_Full : PySem.W.findIn K (.ref aCFU) "__getattr__" = some none)
    (ed_Full : PySem.W.hasDictIn K aCFU = true)
    (ea_Full : PySem.W.findIn K (.ref aCFU) "__class__" = some (some (.builtin "object.__class__")))
    (em_Full : PySem.W.mroIn K aCFU (.type "object") = some true)
    (ge_s : PySem.W.specialIn K (.ref aCGE) "__getattribute__" = some (some (.builtin "type.__getattribute__")))
    (ge_r : PySem.W.readsIn K aCGE (.type "type") = true)
    (ge_f : PySem.W.findCls K (.ref aCGE) (.type "type") "__init__" = some (.val (.builtin "ValueError.__init__")))
    (xl_Broken : K.lookup aCBK = some (excClassObj nm_Broken qn_Broken aCBK N_Broken bs_Broken [.ref aCGE, .type "ValueError", .type "Exception", .type "BaseException", .type "object"] true sn_Broken su_Broken ab_Broken co_Broken dd_Broken u0_Broken u1_Broken u2_Broken u3_Broken u5_Broken "ValueError.__new__"))
    (sa_Broken : PySem.W.findIn K (.ref aCBK) "__setattr__" = some (some (.builtin "object.__setattr__")))
    (xb_Broken : PySem.W.subIn K (.ref aCBK) (.type "BaseException") = some true)
    (xt_Broken : PySem.W.typeIn K (.ref aCBK) = some (.type "type"))
    (xk_Broken : PySem.W.keepIn K (.ref aCBK) = true)
    (na_Broken_k : PySem.W.findIn K (.ref aCBK) "k" = some none)
    (na_Broken_stretch : PySem.W.findIn K (.ref aCBK) "stretch" = some none)
    (eg_Broken : PySem.W.findIn K (.ref aCBK) "__getattribute__" = some (some (.builtin "BaseException.__getattribute__")))
    (ek_Broken : PySem.W.findIn K (.ref aCBK) "__getattr__" = some none)
    (ed_Broken : PySem.W.hasDictIn K aCBK = true)
    (ea_Broken : PySem.W.findIn K (.ref aCBK) "__class__" = some (some (.builtin "object.__class__")))
    (em_Broken : PySem.W.mroIn K aCBK (.type "object") = some true)
    (sub_NoBound_GateError : PySem.W.subIn K (.ref aCNB) (.ref aCGE) = some true)
    (sub_NoMoment_GateError : PySem.W.subIn K (.ref aCNM) (.ref aCGE) = some true)
    (sub_NoCost_GateError : PySem.W.subIn K (.ref aCNC) (.ref aCGE) = some true)
    (sub_NoPlace_GateError : PySem.W.subIn K (.ref aCNP) (.ref aCGE) = some true)
    (sub_NoVisit_GateError : PySem.W.subIn K (.ref aCNV) (.ref aCGE) = some true)
    (sub_Full_GateError : PySem.W.subIn K (.ref aCFU) (.ref aCGE) = some true)
    (sub_Broken_GateError : PySem.W.subIn K (.ref aCBK) (.ref aCGE) = some true)
    (kit_Jar_Jar : PySem.W.kitOne K (.ref aCJ) (.ref aCJ) = some true)
    (kit_Window_Jar : PySem.W.kitOne K (.ref aCW) (.ref aCJ) = some false)
    (kit_Window_Window : PySem.W.kitOne K (.ref aCW) (.ref aCW) = some true)
    (kit_NoneType_Jar : PySem.W.kitOne K (.type "NoneType") (.ref aCJ) = some false)
    (kit_NoneType_Window : PySem.W.kitOne K (.type "NoneType") (.ref aCW) = some false)
    (kit_int_Jar : PySem.W.kitOne K (.type "int") (.ref aCJ) = some false)
    (kit_int_Window : PySem.W.kitOne K (.type "int") (.ref aCW) = some false)
    (kit_bool_Jar : PySem.W.kitOne K (.type "bool") (.ref aCJ) = some false)
    (kit_bool_Window : PySem.W.kitOne K (.type "bool") (.ref aCW) = some false)
    (kit_str_Jar : PySem.W.kitOne K (.type "str") (.ref aCJ) = some false)
    (kit_str_Window : PySem.W.kitOne K (.type "str") (.ref aCW) = some false)
    (kit_list_Jar : PySem.W.kitOne K (.type "list") (.ref aCJ) = some false)
    (kit_list_Window : PySem.W.kitOne K (.type "list") (.ref aCW) = some false)
    (kit_tuple_Jar : PySem.W.kitOne K (.type "tuple") (.ref aCJ) = some false)
    (kit_tuple_Window : PySem.W.kitOne K (.type "tuple") (.ref aCW) = some false)
    (m_len : PySem.W.nsIn K mainGlobals "len" = some none)
    (m_isinstance : PySem.W.nsIn K mainGlobals "isinstance" = some none)
    (m_int : PySem.W.nsIn K mainGlobals "int" = some none)
    (m_bool : PySem.W.nsIn K mainGlobals "bool" = some none)
    (m_tuple : PySem.W.nsIn K mainGlobals "tuple" = some none)
    (m_list : PySem.W.nsIn K mainGlobals "list" = some none)
    (m_range : PySem.W.nsIn K mainGlobals "range" = some none)
    (m_max : PySem.W.nsIn K mainGlobals "max" = some none)
    (m_min : PySem.W.nsIn K mainGlobals "min" = some none)
    (m_all : PySem.W.nsIn K mainGlobals "all" = some none)
    (m_enumerate : PySem.W.nsIn K mainGlobals "enumerate" = some none)
    (m_str : PySem.W.nsIn K mainGlobals "str" = some none)
    (m_sum : PySem.W.nsIn K mainGlobals "sum" = some none)
    (m_sorted : PySem.W.nsIn K mainGlobals "sorted" = some none)
    (m_set : PySem.W.nsIn K mainGlobals "set" = some none)
    (g_MOST_ROOM : PySem.W.nsIn K mainGlobals "MOST_ROOM" = some (some (.int 1000000000000000 tk_MOST_ROOM)))
    (g_MOST_FLOW : PySem.W.nsIn K mainGlobals "MOST_FLOW" = some (some (.int 1000000000 tk_MOST_FLOW)))
    (g_MOST_SPAN : PySem.W.nsIn K mainGlobals "MOST_SPAN" = some (some (.int 1000000000000 tk_MOST_SPAN)))
    (g_MOST_MOMENT : PySem.W.nsIn K mainGlobals "MOST_MOMENT" = some (some (.int 1000000000000 tk_MOST_MOMENT)))
    (g_MOST_COST : PySem.W.nsIn K mainGlobals "MOST_COST" = some (some (.int 1000000000 tk_MOST_COST)))
    (g_MOST_BOUNDS : PySem.W.nsIn K mainGlobals "MOST_BOUNDS" = some (some (.int 4 tk_MOST_BOUNDS)))
    (g_MOST_VISITS : PySem.W.nsIn K mainGlobals "MOST_VISITS" = some (some (.int 40 tk_MOST_VISITS)))
    : ∃ fd : FuncData, (∀ (s : Shared) (v : Value), BindsTo s fd ⟨[v], []⟩ [("_law_script", v)]) ∧ ∀ base : Heap, K.In base → base.Ns mainGlobals mg → FnOk l.prog w K mg base (L2.CX l.prog w) 7 fa fd ["_law_script"] (toSp K DL.spLaw) := by
  have e := hfa.symm.trans (PySem.W.mg_of X G a40)
  cases e
  have T : Txt K mg ⟨aCGE, aCNB, aCNM, aCNC, aCNP, aCNV, aCFU, aCBK, aCJ, aCW, aCBO⟩ := ⟨⟨pg_Jar, hd_Jar, po_Jar, sa_Jar⟩, na_Jar_size, na_Jar_flow, ⟨pg_Window, hd_Window, po_Window, sa_Window⟩, na_Window_most, na_Window_span, ⟨pg_Book, hd_Book, po_Book, sa_Book⟩, na_Book_limits, na_Book_rows, ic_Jar, im_Jar, ic_Window, im_Window, isn, ist, ⟨xq_GateError, PySem.W.mg_of X G n_GateError, xk_GateError, xb_GateError, xt_GateError⟩, ⟨eg_GateError, ek_GateError, xb_GateError, ed_GateError, ea_GateError, isn, ist, em_GateError⟩, ⟨xq_NoBound, PySem.W.mg_of X G n_NoBound, xk_NoBound, xb_NoBound, xt_NoBound⟩, ⟨eg_NoBound, ek_NoBound, xb_NoBound, ed_NoBound, ea_NoBound, isn, ist, em_NoBound⟩, ⟨xq_NoMoment, PySem.W.mg_of X G n_NoMoment, xk_NoMoment, xb_NoMoment, xt_NoMoment⟩, ⟨eg_NoMoment, ek_NoMoment, xb_NoMoment, ed_NoMoment, ea_NoMoment, isn, ist, em_NoMoment⟩, ⟨xq_NoCost, PySem.W.mg_of X G n_NoCost, xk_NoCost, xb_NoCost, xt_NoCost⟩, ⟨eg_NoCost, ek_NoCost, xb_NoCost, ed_NoCost, ea_NoCost, isn, ist, em_NoCost⟩, ⟨xq_NoPlace, PySem.W.mg_of X G n_NoPlace, xk_NoPlace, xb_NoPlace, xt_NoPlace⟩, ⟨eg_NoPlace, ek_NoPlace, xb_NoPlace, ed_NoPlace, ea_NoPlace, isn, ist, em_NoPlace⟩, ⟨xq_NoVisit, PySem.W.mg_of X G n_NoVisit, xk_NoVisit, xb_NoVisit, xt_NoVisit⟩, ⟨eg_NoVisit, ek_NoVisit, xb_NoVisit, ed_NoVisit, ea_NoVisit, isn, ist, em_NoVisit⟩, ⟨xq_Full, PySem.W.mg_of X G n_Full, xk_Full, xb_Full, xt_Full⟩, ⟨eg_Full, ek_Full, xb_Full, ed_Full, ea_Full, isn, ist, em_Full⟩, ⟨PySem.W.mg_of X G n_GateError, ge_s, ge_r, ge_f⟩, ⟨⟨_, _, _, _, _, _, _, _, _, _, _, _, _, _, _, xl_Broken, by first | rfl | (unfold HandSPX.refsVE; rfl) | (unfold HandSPX.refsVE; simp)⟩, sa_Broken, xb_Broken, xt_Broken, xk_Broken⟩, na_Broken_k, na_Broken_stretch, ⟨eg_Broken, ek_Broken, xb_Broken, ed_Broken, ea_Broken, isn, ist, em_Broken⟩, PySem.W.exm_ref xb_GateError ed_GateError xt_GateError sub_NoBound_GateError, PySem.W.exm_ref xb_GateError ed_GateError xt_GateError sub_NoMoment_GateError, PySem.W.exm_ref xb_GateError ed_GateError xt_GateError sub_NoCost_GateError, PySem.W.exm_ref xb_GateError ed_GateError xt_GateError sub_NoPlace_GateError, PySem.W.exm_ref xb_GateError ed_GateError xt_GateError sub_NoVisit_GateError, PySem.W.exm_ref xb_GateError ed_GateError xt_GateError sub_Full_GateError, PySem.W.exm_ref xb_GateError ed_GateError xt_GateError sub_Broken_GateError, kit_Jar_Jar, kit_Window_Jar, kit_Window_Window, kit_NoneType_Jar, kit_NoneType_Window, kit_int_Jar, kit_int_Window, kit_bool_Jar, kit_bool_Window, kit_str_Jar, kit_str_Window, kit_list_Jar, kit_list_Window, kit_tuple_Jar, kit_tuple_Window, PySem.W.mg_none_of X G m_len, PySem.W.mg_none_of X G m_isinstance, PySem.W.mg_none_of X G m_int, PySem.W.mg_none_of X G m_bool, PySem.W.mg_none_of X G m_tuple, PySem.W.mg_none_of X G m_list, PySem.W.mg_none_of X G m_range, PySem.W.mg_none_of X G m_max, PySem.W.mg_none_of X G m_min, PySem.W.mg_none_of X G m_all, PySem.W.mg_none_of X G m_enumerate, PySem.W.mg_none_of X G m_str, PySem.W.mg_none_of X G m_sum, PySem.W.mg_none_of X G m_sorted, PySem.W.mg_none_of X G m_set, ⟨_, .int _, PySem.W.mg_of X G g_MOST_ROOM, ⟨_, rfl⟩, .int _⟩, ⟨_, .int _, PySem.W.mg_of X G g_MOST_FLOW, ⟨_, rfl⟩, .int _⟩, ⟨_, .int _, PySem.W.mg_of X G g_MOST_SPAN, ⟨_, rfl⟩, .int _⟩, ⟨_, .int _, PySem.W.mg_of X G g_MOST_MOMENT, ⟨_, rfl⟩, .int _⟩, ⟨_, .int _, PySem.W.mg_of X G g_MOST_COST, ⟨_, rfl⟩, .int _⟩, ⟨_, .int _, PySem.W.mg_of X G g_MOST_BOUNDS, ⟨_, rfl⟩, .int _⟩, ⟨_, .int _, PySem.W.mg_of X G g_MOST_VISITS, ⟨_, rfl⟩, .int _⟩, ⟨_, .ref _, PySem.W.mg_of X G n_Jar, rfl, .obj _⟩, ⟨_, .ref _, PySem.W.mg_of X G n_Window, rfl, .obj _⟩, ⟨_, .ref _, PySem.W.mg_of X G n_NoBound, rfl, .obj _⟩, ⟨_, .ref _, PySem.W.mg_of X G n_NoMoment, rfl, .obj _⟩, ⟨_, .ref _, PySem.W.mg_of X G n_NoCost, rfl, .obj _⟩, ⟨_, .ref _, PySem.W.mg_of X G n_NoPlace, rfl, .obj _⟩, ⟨_, .ref _, PySem.W.mg_of X G n_NoVisit, rfl, .obj _⟩, ⟨_, .ref _, PySem.W.mg_of X G n_Full, rfl, .obj _⟩, ⟨_, .ref _, PySem.W.mg_of X G n_Broken, rfl, .obj _⟩⟩
  have F0 := fun_mk (st := s_Broken_init) l0 c0 k0
  have b0 := F0.binds (ps := ["self", "k", "stretch"]) fun _ _ _ _ _ _ us hl => match us, hl with | [_, _, _], _ => rfl
  have F1 := fun_mk (st := s_need_number) l1 c1 k1
  have b1 := F1.binds (ps := ["thing", "least", "most"]) fun _ _ _ _ _ _ us hl => match us, hl with | [_, _, _], _ => rfl
  have F2 := fun_mk (st := s_Jar_init) l2 c2 k2
  have b2 := F2.binds (ps := ["self", "size", "flow"]) fun _ _ _ _ _ _ us hl => match us, hl with | [_, _, _], _ => rfl
  have F3 := fun_mk (st := s_Jar_room) l3 c3 k3
  have b3 := F3.binds (ps := ["self", "first", "last"]) fun _ _ _ _ _ _ us hl => match us, hl with | [_, _, _], _ => rfl
  have F4 := fun_mk (st := s_Window_init) l4 c4 k4
  have b4 := F4.binds (ps := ["self", "most", "span"]) fun _ _ _ _ _ _ us hl => match us, hl with | [_, _, _], _ => rfl
  have F5 := fun_mk (st := s_Window_room) l5 c5 k5
  have b5 := F5.binds (ps := ["self", "first", "last"]) fun _ _ _ _ _ _ us hl => match us, hl with | [_, _, _], _ => rfl
  have F6 := fun_mk (st := s_need_bounds) l6 c6 k6
  have b6 := F6.binds (ps := ["bounds", "many"]) fun _ _ _ _ _ _ us hl => match us, hl with | [_, _], _ => rfl
  have F7 := fun_mk (st := s_is_whole) l7 c7 k7
  have b7 := F7.binds (ps := ["thing", "least", "most"]) fun _ _ _ _ _ _ us hl => match us, hl with | [_, _, _], _ => rfl
  have F8 := fun_mk (st := s_need_moment) l8 c8 k8
  have b8 := F8.binds (ps := ["thing"]) fun _ _ _ _ _ _ us hl => match us, hl with | [_], _ => rfl
  have F9 := fun_mk (st := s_need_cost) l9 c9 k9
  have b9 := F9.binds (ps := ["thing"]) fun _ _ _ _ _ _ us hl => match us, hl with | [_], _ => rfl
  have F10 := fun_mk (st := s_broken_all) l10 c10 k10
  have b10 := F10.binds (ps := ["bound", "visits"]) fun _ _ _ _ _ _ us hl => match us, hl with | [_, _], _ => rfl
  have F11 := fun_mk (st := s_broken) l11 c11 k11
  have b11 := F11.binds (ps := ["bound", "visits"]) fun _ _ _ _ _ _ us hl => match us, hl with | [_, _], _ => rfl
  have F12 := fun_mk (st := s_with_visit) l12 c12 k12
  have b12 := F12.binds (ps := ["visits", "moment", "cost"]) fun _ _ _ _ _ _ us hl => match us, hl with | [_, _, _], _ => rfl
  have F13 := fun_mk (st := s_need_kept) l13 c13 k13
  have b13 := F13.binds (ps := ["bounds", "visits"]) fun _ _ _ _ _ _ us hl => match us, hl with | [_, _], _ => rfl
  have F14 := fun_mk (st := s_filled_at) l14 c14 k14
  have b14 := F14.binds (ps := ["bound", "used", "first"]) fun _ _ _ _ _ _ us hl => match us, hl with | [_, _, _], _ => rfl
  have F15 := fun_mk (st := s_behind) l15 c15 k15
  have b15 := F15.binds (ps := ["bound", "visits", "moment", "cost", "stretch"]) fun _ _ _ _ _ _ us hl => match us, hl with | [_, _, _, _, _], _ => rfl
  have F16 := fun_mk (st := s_Book_init) l16 c16 k16
  have b16 := F16.binds (ps := ["self", "bounds"]) fun _ _ _ _ _ _ us hl => match us, hl with | [_, _], _ => rfl
  have F17 := fun_mk (st := s_Book_visits) l17 c17 k17
  have b17 := F17.binds (ps := ["self"]) fun _ _ _ _ _ _ us hl => match us, hl with | [_], _ => rfl
  have F18 := fun_mk (st := s_Book_put) l18 c18 k18
  have b18 := F18.binds (ps := ["self", "moment", "cost"]) fun _ _ _ _ _ _ us hl => match us, hl with | [_, _, _], _ => rfl
  have F19 := fun_mk (st := s_Book_drop) l19 c19 k19
  have b19 := F19.binds (ps := ["self", "moment", "cost"]) fun _ _ _ _ _ _ us hl => match us, hl with | [_, _, _], _ => rfl
  have F20 := fun_mk (st := s_Book_change) l20 c20 k20
  have b20 := F20.binds (ps := ["self", "k", "bound"]) fun _ _ _ _ _ _ us hl => match us, hl with | [_, _, _], _ => rfl
  have F21 := fun_mk (st := s_Book_next_try) l21 c21 k21
  have b21 := F21.binds (ps := ["self", "moment", "cost"]) fun _ _ _ _ _ _ us hl => match us, hl with | [_, _, _], _ => rfl
  have F22 := fun_mk (st := s_Book_earliest) l22 c22 k22
  have b22 := F22.binds (ps := ["self", "moment", "cost"]) fun _ _ _ _ _ _ us hl => match us, hl with | [_, _, _], _ => rfl
  have F23 := fun_mk (st := s__law_cell) l23 c23 k23
  have b23 := F23.binds (ps := ["_law_script", "_law_k"]) fun _ _ _ _ _ _ us hl => match us, hl with | [_, _], _ => rfl
  have F24 := fun_mk (st := s__law_bound) l24 c24 k24
  have b24 := F24.binds (ps := ["_law_cell_here", "_law_scale_here"]) fun _ _ _ _ _ _ us hl => match us, hl with | [_, _], _ => rfl
  have F25 := fun_mk (st := s__law_made) l25 c25 k25
  have b25 := F25.binds (ps := ["_law_bound_here"]) fun _ _ _ _ _ _ us hl => match us, hl with | [_], _ => rfl
  have F26 := fun_mk (st := s__law_room) l26 c26 k26
  have b26 := F26.binds (ps := ["_law_bound_here", "_law_first_here", "_law_last"]) fun _ _ _ _ _ _ us hl => match us, hl with | [_, _, _], _ => rfl
  have F27 := fun_mk (st := s__law_first) l27 c27 k27
  have b27 := F27.binds (ps := ["_law_bound_here", "_law_visits"]) fun _ _ _ _ _ _ us hl => match us, hl with | [_, _], _ => rfl
  have F28 := fun_mk (st := s__law_breaks) l28 c28 k28
  have b28 := F28.binds (ps := ["_law_bounds", "_law_visits"]) fun _ _ _ _ _ _ us hl => match us, hl with | [_, _], _ => rfl
  have F29 := fun_mk (st := s__law_with) l29 c29 k29
  have b29 := F29.binds (ps := ["_law_visits", "_law_moment", "_law_cost_here"]) fun _ _ _ _ _ _ us hl => match us, hl with | [_, _, _], _ => rfl
  have F30 := fun_mk (st := s__law_cost) l30 c30 k30
  have b30 := F30.binds (ps := ["_law_cell_here", "_law_scale_here"]) fun _ _ _ _ _ _ us hl => match us, hl with | [_, _], _ => rfl
  have F31 := fun_mk (st := s__law_scale) l31 c31 k31
  have b31 := F31.binds (ps := ["_law_cell_here"]) fun _ _ _ _ _ _ us hl => match us, hl with | [_], _ => rfl
  have F32 := fun_mk (st := s__law_begins) l32 c32 k32
  have b32 := F32.binds (ps := ["_law_bounds", "_law_visits", "_law_moment", "_law_cost_here"]) fun _ _ _ _ _ _ us hl => match us, hl with | [_, _, _, _], _ => rfl
  have F33 := fun_mk (st := s__law_earliest) l33 c33 k33
  have b33 := F33.binds (ps := ["_law_bounds", "_law_visits", "_law_moment", "_law_cost_here"]) fun _ _ _ _ _ _ us hl => match us, hl with | [_, _, _, _], _ => rfl
  have F34 := fun_mk (st := s__law_one_by_one) l34 c34 k34
  have b34 := F34.binds (ps := ["_law_bounds", "_law_visits", "_law_moment", "_law_cost_here"]) fun _ _ _ _ _ _ us hl => match us, hl with | [_, _, _, _], _ => rfl
  have F35 := fun_mk (st := s__law_asked) l35 c35 k35
  have b35 := F35.binds (ps := ["_law_book", "_law_bounds", "_law_visits", "_law_moment", "_law_cost_here"]) fun _ _ _ _ _ _ us hl => match us, hl with | [_, _, _, _, _], _ => rfl
  have F36 := fun_mk (st := s__law_put) l36 c36 k36
  have b36 := F36.binds (ps := ["_law_book", "_law_moment", "_law_cost_here"]) fun _ _ _ _ _ _ us hl => match us, hl with | [_, _, _], _ => rfl
  have F37 := fun_mk (st := s__law_wide) l37 c37 k37
  have b37 := F37.binds (ps := ["_law_bound_here", "_law_cell_here"]) fun _ _ _ _ _ _ us hl => match us, hl with | [_, _], _ => rfl
  have F38 := fun_mk (st := s__law_changed) l38 c38 k38
  have b38 := F38.binds (ps := ["_law_book", "_law_bounds", "_law_visits", "_law_cell_here", "_law_scale_here"]) fun _ _ _ _ _ _ us hl => match us, hl with | [_, _, _, _, _], _ => rfl
  have F39 := fun_mk (st := s__law_ends) l39 c39 k39
  have b39 := F39.binds (ps := ["_law_begin"]) fun _ _ _ _ _ _ us hl => match us, hl with | [_], _ => rfl
  have F40 := fun_mk (st := s_law) l40 c40 k40
  refine ⟨PySem.W.fnOf "law" "law" (defArgs s_law) (defBody s_law) (defScope s_law) .none kV40 dc40 pm40 an40 cd40 ct40, fun s v => .of_eq rfl, fun base _ _ => ?_⟩
  have G0 := ok_Broken_init (Pg := l.prog) (w := w) (base := base) (A := ⟨aCGE, aCNB, aCNM, aCNC, aCNP, aCNV, aCFU, aCBK, aCJ, aCW, aCBO⟩) F0 T
  have F_Broken : DExI l.prog w K mg base 1 "Broken" aCBK (sp2 "k" "stretch" aCBK) := ⟨_, _, _, G0, b0, ⟨T.oc_Broken, PySem.W.mg_of X G n_Broken, a0_Broken, tf_Broken⟩⟩
  have G1 := ok_need_number (Pg := l.prog) (w := w) (base := base) (A := ⟨aCGE, aCNB, aCNM, aCNC, aCNP, aCNV, aCFU, aCBK, aCJ, aCW, aCBO⟩) F1 T
  have F_need_number : DCal l.prog w K mg base 1 "need_number" (S_need_number ⟨aCGE, aCNB, aCNM, aCNC, aCNP, aCNV, aCFU, aCBK, aCJ, aCW, aCBO⟩) [] := ⟨_, dfn_of G1 b1, PySem.W.mg_of X G a1, k1⟩
  have G2 := ok_Jar_init (Pg := l.prog) (w := w) (base := base) (A := ⟨aCGE, aCNB, aCNM, aCNC, aCNP, aCNV, aCFU, aCBK, aCJ, aCW, aCBO⟩) F2 T F_need_number
  have F_Jar : DMak l.prog w K mg base 2 "Jar" aCJ (S_Jar_init ⟨aCGE, aCNB, aCNM, aCNC, aCNP, aCNV, aCFU, aCBK, aCJ, aCW, aCBO⟩) [] := ⟨_, dfn_of G2 b2, ⟨mk_Jar, a2_Jar, i2, kc_Jar⟩, PySem.W.mg_of X G n_Jar⟩
  have G3 := ok_Jar_room (Pg := l.prog) (w := w) (base := base) (A := ⟨aCGE, aCNB, aCNM, aCNC, aCNP, aCNV, aCFU, aCBK, aCJ, aCW, aCBO⟩) F3 T
  have M_Jar_room : DMet l.prog w K mg base 1 aCJ "room" (S_Jar_room ⟨aCGE, aCNB, aCNM, aCNC, aCNP, aCNV, aCFU, aCBK, aCJ, aCW, aCBO⟩) [] := ⟨_, dfn_of G3 b3, T.cl_Jar, ⟨a3_Jar, i3, k3⟩⟩
  have G4 := ok_Window_init (Pg := l.prog) (w := w) (base := base) (A := ⟨aCGE, aCNB, aCNM, aCNC, aCNP, aCNV, aCFU, aCBK, aCJ, aCW, aCBO⟩) F4 T F_need_number
  have F_Window : DMak l.prog w K mg base 2 "Window" aCW (S_Window_init ⟨aCGE, aCNB, aCNM, aCNC, aCNP, aCNV, aCFU, aCBK, aCJ, aCW, aCBO⟩) [] := ⟨_, dfn_of G4 b4, ⟨mk_Window, a4_Window, i4, kc_Window⟩, PySem.W.mg_of X G n_Window⟩
  have G5 := ok_Window_room (Pg := l.prog) (w := w) (base := base) (A := ⟨aCGE, aCNB, aCNM, aCNC, aCNP, aCNV, aCFU, aCBK, aCJ, aCW, aCBO⟩) F5 T
  have M_Window_room : DMet l.prog w K mg base 1 aCW "room" (S_Window_room ⟨aCGE, aCNB, aCNM, aCNC, aCNP, aCNV, aCFU, aCBK, aCJ, aCW, aCBO⟩) [] := ⟨_, dfn_of G5 b5, T.cl_Window, ⟨a5_Window, i5, k5⟩⟩
  have G6 := ok_need_bounds (Pg := l.prog) (w := w) (base := base) (A := ⟨aCGE, aCNB, aCNM, aCNC, aCNP, aCNV, aCFU, aCBK, aCJ, aCW, aCBO⟩) F6 T
  have F_need_bounds : DCal l.prog w K mg base 1 "need_bounds" (S_need_bounds ⟨aCGE, aCNB, aCNM, aCNC, aCNP, aCNV, aCFU, aCBK, aCJ, aCW, aCBO⟩) [] := ⟨_, dfn_of G6 b6, PySem.W.mg_of X G a6, k6⟩
  have G7 := ok_is_whole (Pg := l.prog) (w := w) (base := base) (A := ⟨aCGE, aCNB, aCNM, aCNC, aCNP, aCNV, aCFU, aCBK, aCJ, aCW, aCBO⟩) F7 T
  have F_is_whole : DCal l.prog w K mg base 1 "is_whole" (S_is_whole ⟨aCGE, aCNB, aCNM, aCNC, aCNP, aCNV, aCFU, aCBK, aCJ, aCW, aCBO⟩) [] := ⟨_, dfn_of G7 b7, PySem.W.mg_of X G a7, k7⟩
  have G8 := ok_need_moment (Pg := l.prog) (w := w) (base := base) (A := ⟨aCGE, aCNB, aCNM, aCNC, aCNP, aCNV, aCFU, aCBK, aCJ, aCW, aCBO⟩) F8 T F_is_whole
  have F_need_moment : DCal l.prog w K mg base 2 "need_moment" (S_need_moment ⟨aCGE, aCNB, aCNM, aCNC, aCNP, aCNV, aCFU, aCBK, aCJ, aCW, aCBO⟩) [] := ⟨_, dfn_of G8 b8, PySem.W.mg_of X G a8, k8⟩
  have G9 := ok_need_cost (Pg := l.prog) (w := w) (base := base) (A := ⟨aCGE, aCNB, aCNM, aCNC, aCNP, aCNV, aCFU, aCBK, aCJ, aCW, aCBO⟩) F9 T F_is_whole
  have F_need_cost : DCal l.prog w K mg base 2 "need_cost" (S_need_cost ⟨aCGE, aCNB, aCNM, aCNC, aCNP, aCNV, aCFU, aCBK, aCJ, aCW, aCBO⟩) [] := ⟨_, dfn_of G9 b9, PySem.W.mg_of X G a9, k9⟩
  have G10 := ok_broken_all (Pg := l.prog) (w := w) (base := base) (A := ⟨aCGE, aCNB, aCNM, aCNC, aCNP, aCNV, aCFU, aCBK, aCJ, aCW, aCBO⟩) F10 T M_Jar_room M_Window_room
  have F_broken_all : DCal l.prog w K mg base 2 "broken_all" (S_broken_all ⟨aCGE, aCNB, aCNM, aCNC, aCNP, aCNV, aCFU, aCBK, aCJ, aCW, aCBO⟩) [] := ⟨_, dfn_of G10 b10, PySem.W.mg_of X G a10, k10⟩
  have G11 := ok_broken (Pg := l.prog) (w := w) (base := base) (A := ⟨aCGE, aCNB, aCNM, aCNC, aCNP, aCNV, aCFU, aCBK, aCJ, aCW, aCBO⟩) F11 T F_broken_all
  have F_broken : DCal l.prog w K mg base 3 "broken" (S_broken ⟨aCGE, aCNB, aCNM, aCNC, aCNP, aCNV, aCFU, aCBK, aCJ, aCW, aCBO⟩) [] := ⟨_, dfn_of G11 b11, PySem.W.mg_of X G a11, k11⟩
  have G12 := ok_with_visit (Pg := l.prog) (w := w) (base := base) (A := ⟨aCGE, aCNB, aCNM, aCNC, aCNP, aCNV, aCFU, aCBK, aCJ, aCW, aCBO⟩) F12 T
  have F_with_visit : DCal l.prog w K mg base 1 "with_visit" (S_with_visit ⟨aCGE, aCNB, aCNM, aCNC, aCNP, aCNV, aCFU, aCBK, aCJ, aCW, aCBO⟩) [] := ⟨_, dfn_of G12 b12, PySem.W.mg_of X G a12, k12⟩
  have G13 := ok_need_kept (Pg := l.prog) (w := w) (base := base) (A := ⟨aCGE, aCNB, aCNM, aCNC, aCNP, aCNV, aCFU, aCBK, aCJ, aCW, aCBO⟩) F13 T F_broken F_Broken
  have F_need_kept : DCal l.prog w K mg base 4 "need_kept" (S_need_kept ⟨aCGE, aCNB, aCNM, aCNC, aCNP, aCNV, aCFU, aCBK, aCJ, aCW, aCBO⟩) [] := ⟨_, dfn_of G13 b13, PySem.W.mg_of X G a13, k13⟩
  have G14 := ok_filled_at (Pg := l.prog) (w := w) (base := base) (A := ⟨aCGE, aCNB, aCNM, aCNC, aCNP, aCNV, aCFU, aCBK, aCJ, aCW, aCBO⟩) F14 T
  have F_filled_at : DCal l.prog w K mg base 1 "filled_at" (S_filled_at ⟨aCGE, aCNB, aCNM, aCNC, aCNP, aCNV, aCFU, aCBK, aCJ, aCW, aCBO⟩) [] := ⟨_, dfn_of G14 b14, PySem.W.mg_of X G a14, k14⟩
  have G15 := ok_behind (Pg := l.prog) (w := w) (base := base) (A := ⟨aCGE, aCNB, aCNM, aCNC, aCNP, aCNV, aCFU, aCBK, aCJ, aCW, aCBO⟩) F15 T F_filled_at
  have F_behind : DCal l.prog w K mg base 2 "behind" (S_behind ⟨aCGE, aCNB, aCNM, aCNC, aCNP, aCNV, aCFU, aCBK, aCJ, aCW, aCBO⟩) [] := ⟨_, dfn_of G15 b15, PySem.W.mg_of X G a15, k15⟩
  have G16 := ok_Book_init (Pg := l.prog) (w := w) (base := base) (A := ⟨aCGE, aCNB, aCNM, aCNC, aCNP, aCNV, aCFU, aCBK, aCJ, aCW, aCBO⟩) F16 T F_need_bounds
  have F_Book : DMak l.prog w K mg base 2 "Book" aCBO (S_Book_init ⟨aCGE, aCNB, aCNM, aCNC, aCNP, aCNV, aCFU, aCBK, aCJ, aCW, aCBO⟩) [] := ⟨_, dfn_of G16 b16, ⟨mk_Book, a16_Book, i16, kc_Book⟩, PySem.W.mg_of X G n_Book⟩
  have G17 := ok_Book_visits (Pg := l.prog) (w := w) (base := base) (A := ⟨aCGE, aCNB, aCNM, aCNC, aCNP, aCNV, aCFU, aCBK, aCJ, aCW, aCBO⟩) F17 T
  have M_Book_visits : DMet l.prog w K mg base 1 aCBO "visits" (S_Book_visits ⟨aCGE, aCNB, aCNM, aCNC, aCNP, aCNV, aCFU, aCBK, aCJ, aCW, aCBO⟩) [] := ⟨_, dfn_of G17 b17, T.cl_Book, ⟨a17_Book, i17, k17⟩⟩
  have G18 := ok_Book_put (Pg := l.prog) (w := w) (base := base) (A := ⟨aCGE, aCNB, aCNM, aCNC, aCNP, aCNV, aCFU, aCBK, aCJ, aCW, aCBO⟩) F18 T F_need_moment F_need_cost F_with_visit F_need_kept
  have M_Book_put : DMet l.prog w K mg base 5 aCBO "put" (S_Book_put ⟨aCGE, aCNB, aCNM, aCNC, aCNP, aCNV, aCFU, aCBK, aCJ, aCW, aCBO⟩) [] := ⟨_, dfn_of G18 b18, T.cl_Book, ⟨a18_Book, i18, k18⟩⟩
  have G19 := ok_Book_drop (Pg := l.prog) (w := w) (base := base) (A := ⟨aCGE, aCNB, aCNM, aCNC, aCNP, aCNV, aCFU, aCBK, aCJ, aCW, aCBO⟩) F19 T F_need_moment F_need_cost
  have M_Book_drop : DMet l.prog w K mg base 3 aCBO "drop" (S_Book_drop ⟨aCGE, aCNB, aCNM, aCNC, aCNP, aCNV, aCFU, aCBK, aCJ, aCW, aCBO⟩) [] := ⟨_, dfn_of G19 b19, T.cl_Book, ⟨a19_Book, i19, k19⟩⟩
  have G20 := ok_Book_change (Pg := l.prog) (w := w) (base := base) (A := ⟨aCGE, aCNB, aCNM, aCNC, aCNP, aCNV, aCFU, aCBK, aCJ, aCW, aCBO⟩) F20 T F_need_bounds F_broken F_is_whole F_Broken
  have M_Book_change : DMet l.prog w K mg base 4 aCBO "change" (S_Book_change ⟨aCGE, aCNB, aCNM, aCNC, aCNP, aCNV, aCFU, aCBK, aCJ, aCW, aCBO⟩) [] := ⟨_, dfn_of G20 b20, T.cl_Book, ⟨a20_Book, i20, k20⟩⟩
  have G21 := ok_Book_next_try (Pg := l.prog) (w := w) (base := base) (A := ⟨aCGE, aCNB, aCNM, aCNC, aCNP, aCNV, aCFU, aCBK, aCJ, aCW, aCBO⟩) F21 T F_with_visit F_broken_all F_behind M_Jar_room M_Window_room
  have M_Book_next_try : DMet l.prog w K mg base 3 aCBO "next_try" (S_Book_next_try ⟨aCGE, aCNB, aCNM, aCNC, aCNP, aCNV, aCFU, aCBK, aCJ, aCW, aCBO⟩) [] := ⟨_, dfn_of G21 b21, T.cl_Book, ⟨a21_Book, i21, k21⟩⟩
  have G22 := ok_Book_earliest (Pg := l.prog) (w := w) (base := base) (A := ⟨aCGE, aCNB, aCNM, aCNC, aCNP, aCNV, aCFU, aCBK, aCJ, aCW, aCBO⟩) F22 T F_need_moment F_need_cost M_Book_next_try
  have M_Book_earliest : DMet l.prog w K mg base 4 aCBO "earliest" (S_Book_earliest ⟨aCGE, aCNB, aCNM, aCNC, aCNP, aCNV, aCFU, aCBK, aCJ, aCW, aCBO⟩) [] := ⟨_, dfn_of G22 b22, T.cl_Book, ⟨a22_Book, i22, k22⟩⟩
  have G23 := ok__law_cell (Pg := l.prog) (w := w) (base := base) (A := ⟨aCGE, aCNB, aCNM, aCNC, aCNP, aCNV, aCFU, aCBK, aCJ, aCW, aCBO⟩) F23 T
  have F__law_cell : DCal l.prog w K mg base 1 "_law_cell" (S__law_cell ⟨aCGE, aCNB, aCNM, aCNC, aCNP, aCNV, aCFU, aCBK, aCJ, aCW, aCBO⟩) [] := ⟨_, dfn_of G23 b23, PySem.W.mg_of X G a23, k23⟩
  have G24 := ok__law_bound (Pg := l.prog) (w := w) (base := base) (A := ⟨aCGE, aCNB, aCNM, aCNC, aCNP, aCNV, aCFU, aCBK, aCJ, aCW, aCBO⟩) F24 T
  have F__law_bound : DCal l.prog w K mg base 1 "_law_bound" (S__law_bound ⟨aCGE, aCNB, aCNM, aCNC, aCNP, aCNV, aCFU, aCBK, aCJ, aCW, aCBO⟩) [] := ⟨_, dfn_of G24 b24, PySem.W.mg_of X G a24, k24⟩
  have G25 := ok__law_made (Pg := l.prog) (w := w) (base := base) (A := ⟨aCGE, aCNB, aCNM, aCNC, aCNP, aCNV, aCFU, aCBK, aCJ, aCW, aCBO⟩) F25 T F_Window F_Jar
  have F__law_made : DCal l.prog w K mg base 4 "_law_made" (S__law_made ⟨aCGE, aCNB, aCNM, aCNC, aCNP, aCNV, aCFU, aCBK, aCJ, aCW, aCBO⟩) [] := ⟨_, dfn_of G25 b25, PySem.W.mg_of X G a25, k25⟩
  have G26 := ok__law_room (Pg := l.prog) (w := w) (base := base) (A := ⟨aCGE, aCNB, aCNM, aCNC, aCNP, aCNV, aCFU, aCBK, aCJ, aCW, aCBO⟩) F26 T
  have F__law_room : DCal l.prog w K mg base 1 "_law_room" (S__law_room ⟨aCGE, aCNB, aCNM, aCNC, aCNP, aCNV, aCFU, aCBK, aCJ, aCW, aCBO⟩) [] := ⟨_, dfn_of G26 b26, PySem.W.mg_of X G a26, k26⟩
  have G27 := ok__law_first (Pg := l.prog) (w := w) (base := base) (A := ⟨aCGE, aCNB, aCNM, aCNC, aCNP, aCNV, aCFU, aCBK, aCJ, aCW, aCBO⟩) F27 T F__law_room
  have F__law_first : DCal l.prog w K mg base 2 "_law_first" (S__law_first ⟨aCGE, aCNB, aCNM, aCNC, aCNP, aCNV, aCFU, aCBK, aCJ, aCW, aCBO⟩) [] := ⟨_, dfn_of G27 b27, PySem.W.mg_of X G a27, k27⟩
  have G28 := ok__law_breaks (Pg := l.prog) (w := w) (base := base) (A := ⟨aCGE, aCNB, aCNM, aCNC, aCNP, aCNV, aCFU, aCBK, aCJ, aCW, aCBO⟩) F28 T F__law_first
  have F__law_breaks : DCal l.prog w K mg base 3 "_law_breaks" (S__law_breaks ⟨aCGE, aCNB, aCNM, aCNC, aCNP, aCNV, aCFU, aCBK, aCJ, aCW, aCBO⟩) [] := ⟨_, dfn_of G28 b28, PySem.W.mg_of X G a28, k28⟩
  have G29 := ok__law_with (Pg := l.prog) (w := w) (base := base) (A := ⟨aCGE, aCNB, aCNM, aCNC, aCNP, aCNV, aCFU, aCBK, aCJ, aCW, aCBO⟩) F29 T
  have F__law_with : DCal l.prog w K mg base 1 "_law_with" (S__law_with ⟨aCGE, aCNB, aCNM, aCNC, aCNP, aCNV, aCFU, aCBK, aCJ, aCW, aCBO⟩) [] := ⟨_, dfn_of G29 b29, PySem.W.mg_of X G a29, k29⟩
  have G30 := ok__law_cost (Pg := l.prog) (w := w) (base := base) (A := ⟨aCGE, aCNB, aCNM, aCNC, aCNP, aCNV, aCFU, aCBK, aCJ, aCW, aCBO⟩) F30 T
  have F__law_cost : DCal l.prog w K mg base 1 "_law_cost" (S__law_cost ⟨aCGE, aCNB, aCNM, aCNC, aCNP, aCNV, aCFU, aCBK, aCJ, aCW, aCBO⟩) [] := ⟨_, dfn_of G30 b30, PySem.W.mg_of X G a30, k30⟩
  have G31 := ok__law_scale (Pg := l.prog) (w := w) (base := base) (A := ⟨aCGE, aCNB, aCNM, aCNC, aCNP, aCNV, aCFU, aCBK, aCJ, aCW, aCBO⟩) F31 T
  have F__law_scale : DCal l.prog w K mg base 1 "_law_scale" (S__law_scale ⟨aCGE, aCNB, aCNM, aCNC, aCNP, aCNV, aCFU, aCBK, aCJ, aCW, aCBO⟩) [] := ⟨_, dfn_of G31 b31, PySem.W.mg_of X G a31, k31⟩
  have G32 := ok__law_begins (Pg := l.prog) (w := w) (base := base) (A := ⟨aCGE, aCNB, aCNM, aCNC, aCNP, aCNV, aCFU, aCBK, aCJ, aCW, aCBO⟩) F32 T
  have F__law_begins : DCal l.prog w K mg base 1 "_law_begins" (S__law_begins ⟨aCGE, aCNB, aCNM, aCNC, aCNP, aCNV, aCFU, aCBK, aCJ, aCW, aCBO⟩) [] := ⟨_, dfn_of G32 b32, PySem.W.mg_of X G a32, k32⟩
  have G33 := ok__law_earliest (Pg := l.prog) (w := w) (base := base) (A := ⟨aCGE, aCNB, aCNM, aCNC, aCNP, aCNV, aCFU, aCBK, aCJ, aCW, aCBO⟩) F33 T F__law_begins F__law_breaks F__law_with
  have F__law_earliest : DCal l.prog w K mg base 4 "_law_earliest" (S__law_earliest ⟨aCGE, aCNB, aCNM, aCNC, aCNP, aCNV, aCFU, aCBK, aCJ, aCW, aCBO⟩) [] := ⟨_, dfn_of G33 b33, PySem.W.mg_of X G a33, k33⟩
  have G34 := ok__law_one_by_one (Pg := l.prog) (w := w) (base := base) (A := ⟨aCGE, aCNB, aCNM, aCNC, aCNP, aCNV, aCFU, aCBK, aCJ, aCW, aCBO⟩) F34 T F__law_breaks F__law_with
  have F__law_one_by_one : DCal l.prog w K mg base 4 "_law_one_by_one" (S__law_one_by_one ⟨aCGE, aCNB, aCNM, aCNC, aCNP, aCNV, aCFU, aCBK, aCJ, aCW, aCBO⟩) [] := ⟨_, dfn_of G34 b34, PySem.W.mg_of X G a34, k34⟩
  have G35 := ok__law_asked (Pg := l.prog) (w := w) (base := base) (A := ⟨aCGE, aCNB, aCNM, aCNC, aCNP, aCNV, aCFU, aCBK, aCJ, aCW, aCBO⟩) F35 T F__law_earliest M_Book_earliest M_Book_visits
  have F__law_asked : DCal l.prog w K mg base 5 "_law_asked" (S__law_asked ⟨aCGE, aCNB, aCNM, aCNC, aCNP, aCNV, aCFU, aCBK, aCJ, aCW, aCBO⟩) [] := ⟨_, dfn_of G35 b35, PySem.W.mg_of X G a35, k35⟩
  have G36 := ok__law_put (Pg := l.prog) (w := w) (base := base) (A := ⟨aCGE, aCNB, aCNM, aCNC, aCNP, aCNV, aCFU, aCBK, aCJ, aCW, aCBO⟩) F36 T M_Book_put
  have F__law_put : DCal l.prog w K mg base 6 "_law_put" (S__law_put ⟨aCGE, aCNB, aCNM, aCNC, aCNP, aCNV, aCFU, aCBK, aCJ, aCW, aCBO⟩) [] := ⟨_, dfn_of G36 b36, PySem.W.mg_of X G a36, k36⟩
  have G37 := ok__law_wide (Pg := l.prog) (w := w) (base := base) (A := ⟨aCGE, aCNB, aCNM, aCNC, aCNP, aCNV, aCFU, aCBK, aCJ, aCW, aCBO⟩) F37 T
  have F__law_wide : DCal l.prog w K mg base 1 "_law_wide" (S__law_wide ⟨aCGE, aCNB, aCNM, aCNC, aCNP, aCNV, aCFU, aCBK, aCJ, aCW, aCBO⟩) [] := ⟨_, dfn_of G37 b37, PySem.W.mg_of X G a37, k37⟩
  have G38 := ok__law_changed (Pg := l.prog) (w := w) (base := base) (A := ⟨aCGE, aCNB, aCNM, aCNC, aCNP, aCNV, aCFU, aCBK, aCJ, aCW, aCBO⟩) F38 T F__law_bound F__law_wide F__law_first F__law_made M_Book_change
  have F__law_changed : DCal l.prog w K mg base 5 "_law_changed" (S__law_changed ⟨aCGE, aCNB, aCNM, aCNC, aCNP, aCNV, aCFU, aCBK, aCJ, aCW, aCBO⟩) [] := ⟨_, dfn_of G38 b38, PySem.W.mg_of X G a38, k38⟩
  have G39 := ok__law_ends (Pg := l.prog) (w := w) (base := base) (A := ⟨aCGE, aCNB, aCNM, aCNC, aCNP, aCNV, aCFU, aCBK, aCJ, aCW, aCBO⟩) F39 T F_Book F_Jar M_Book_put M_Book_earliest
  have F__law_ends : DCal l.prog w K mg base 6 "_law_ends" (S__law_ends ⟨aCGE, aCNB, aCNM, aCNC, aCNP, aCNV, aCFU, aCBK, aCJ, aCW, aCBO⟩) [] := ⟨_, dfn_of G39 b39, PySem.W.mg_of X G a39, k39⟩
  exact ok_law F40 T F_Book F__law_bound F__law_cell F__law_put F__law_ends F__law_scale F__law_wide F__law_made F__law_with F__law_changed F__law_cost F__law_asked F__law_one_by_one M_Book_visits M_Book_drop M_Book_earliest
theorem walk {l : PySem.W.OpenLaw} {q : Program} {loose : List Str} {XP : (Str → Option Value) → Heap → Prop} {YP : World → Heap → Prop} {d : DefRec} {K : Params → PySem.W.Frag} (hn : l.most = some 63) (hdf : d.params.defaults = [])
    (hY : ∀ (w : World) (h : Heap), YP w h → (K w.params).In h)
    (F : ∀ (w : World) (mg : Str → Option Value) (fa : Addr) (h : Heap), (K w.params).In h → h.Ns mainGlobals mg → mg d.name = some (.ref fa) →
      ∃ fd : FuncData, (∀ (s : Shared) (u : Value), BindsTo s fd ⟨[u], []⟩ [("_law_script", u)]) ∧ ∀ base : Heap, (K w.params).In base → base.Ns mainGlobals mg → FnOk l.prog w (K w.params) mg base (L2.CX l.prog w) 7 fa fd ["_law_script"] (toSp (K w.params) DL.spLaw)) :
    PySem.W.WalkO q loose XP YP l.row.toRowW d [] (fun f vs => PySem.call f vs) :=
  L2.walk_of (n := 63) (k := 7) (x := "_law_script") (CX := fun w => L2.CX l.prog w) (sp := fun w => toSp (K w.params) DL.spLaw) hn (by decide) hdf ⟨rfl, by decide, by decide⟩ hY F (fun _ _ a ns hl _ hS => law_sp hl hS) fun w H s e s' h => law_CX H s e s' h
end TSL

open PySem PySem.W PyProof.Rows in
set_option maxRecDepth 100000 in
set_option maxHeartbeats 0 in
theorem PySem.Challenge.cw_turnstile_k10_whole_earliest_holds : PySem.Challenge.rw_turnstile_k10_whole_earliest.Holds := by
  w_on; o_law; k_head; (case hw => w_witness2)
  k_fill
  refine TSL.walk (l := PySem.Challenge.rw_turnstile_k10_whole_earliest) rfl rfl (fun w h Y => PySem.W.kIn_of Y) ?F
  case F =>
    intro w mg fa h KX G hmg
    refine' TSL.all_mk KX G hmg ?n_GateError ?n_NoBound ?n_NoMoment ?n_NoCost ?n_NoPlace ?n_NoVisit ?n_Full ?n_Broken ?n_Jar ?n_Window ?n_Book ?a0_Broken ?tf_Broken ?i0 ?l0 ?c0 ?k0 ?a1 ?l1 ?c1 ?k1 ?a2_Jar ?i2 ?l2 ?c2 ?k2 ?a3_Jar ?i3 ?l3 ?c3 ?k3 ?a4_Window ?i4 ?l4 ?c4 ?k4 ?a5_Window ?i5 ?l5 ?c5 ?k5 ?a6 ?l6 ?c6 ?k6 ?a7 ?l7 ?c7 ?k7 ?a8 ?l8 ?c8 ?k8 ?a9 ?l9 ?c9 ?k9 ?a10 ?l10 ?c10 ?k10 ?a11 ?l11 ?c11 ?k11 ?a12 ?l12 ?c12 ?k12 ?a13 ?l13 ?c13 ?k13 ?a14 ?l14 ?c14 ?k14 ?a15 ?l15 ?c15 ?k15 ?a16_Book ?i16 ?l16 ?c16 ?k16 ?a17_Book ?i17 ?l17 ?c17 ?k17 ?a18_Book ?i18 ?l18 ?c18 ?k18 ?a19_Book ?i19 ?l19 ?c19 ?k19 ?a20_Book ?i20 ?l20 ?c20 ?k20 ?a21_Book ?i21 ?l21 ?c21 ?k21 ?a22_Book ?i22 ?l22 ?c22 ?k22 ?a23 ?l23 ?c23 ?k23 ?a24 ?l24 ?c24 ?k24 ?a25 ?l25 ?c25 ?k25 ?a26 ?l26 ?c26 ?k26 ?a27 ?l27 ?c27 ?k27 ?a28 ?l28 ?c28 ?k28 ?a29 ?l29 ?c29 ?k29 ?a30 ?l30 ?c30 ?k30 ?a31 ?l31 ?c31 ?k31 ?a32 ?l32 ?c32 ?k32 ?a33 ?l33 ?c33 ?k33 ?a34 ?l34 ?c34 ?k34 ?a35 ?l35 ?c35 ?k35 ?a36 ?l36 ?c36 ?k36 ?a37 ?l37 ?c37 ?k37 ?a38 ?l38 ?c38 ?k38 ?a39 ?l39 ?c39 ?k39 ?a40 ?l40 ?c40 ?k40 ?mk_Jar ?kc_Jar ?mk_Window ?kc_Window ?mk_Book ?kc_Book ?pg_Jar ?hd_Jar ?po_Jar ?sa_Jar ?na_Jar_size ?na_Jar_flow ?pg_Window ?hd_Window ?po_Window ?sa_Window ?na_Window_most ?na_Window_span ?pg_Book ?hd_Book ?po_Book ?sa_Book ?na_Book_limits ?na_Book_rows ?ic_Jar ?im_Jar ?ic_Window ?im_Window ?isn ?ist ?xq_GateError ?xk_GateError ?xb_GateError ?xt_GateError ?eg_GateError ?ek_GateError ?ed_GateError ?ea_GateError ?em_GateError ?xq_NoBound ?xk_NoBound ?xb_NoBound ?xt_NoBound ?eg_NoBound ?ek_NoBound ?ed_NoBound ?ea_NoBound ?em_NoBound ?xq_NoMoment ?xk_NoMoment ?xb_NoMoment ?xt_NoMoment ?eg_NoMoment ?ek_NoMoment ?ed_NoMoment ?ea_NoMoment ?em_NoMoment ?xq_NoCost ?xk_NoCost ?xb_NoCost ?xt_NoCost ?eg_NoCost ?ek_NoCost ?ed_NoCost ?ea_NoCost ?em_NoCost ?xq_NoPlace ?xk_NoPlace ?xb_NoPlace ?xt_NoPlace ?eg_NoPlace ?ek_NoPlace ?ed_NoPlace ?ea_NoPlace ?em_NoPlace ?xq_NoVisit ?xk_NoVisit ?xb_NoVisit ?xt_NoVisit ?eg_NoVisit ?ek_NoVisit ?ed_NoVisit ?ea_NoVisit ?em_NoVisit ?xq_Full ?xk_Full ?xb_Full ?xt_Full ?eg_Full ?ek_Full ?ed_Full ?ea_Full ?em_Full ?ge_s ?ge_r ?ge_f ?xl_Broken ?sa_Broken ?xb_Broken ?xt_Broken ?xk_Broken ?na_Broken_k ?na_Broken_stretch ?eg_Broken ?ek_Broken ?ed_Broken ?ea_Broken ?em_Broken ?sub_NoBound_GateError ?sub_NoMoment_GateError ?sub_NoCost_GateError ?sub_NoPlace_GateError ?sub_NoVisit_GateError ?sub_Full_GateError ?sub_Broken_GateError ?kit_Jar_Jar ?kit_Window_Jar ?kit_Window_Window ?kit_NoneType_Jar ?kit_NoneType_Window ?kit_int_Jar ?kit_int_Window ?kit_bool_Jar ?kit_bool_Window ?kit_str_Jar ?kit_str_Window ?kit_list_Jar ?kit_list_Window ?kit_tuple_Jar ?kit_tuple_Window ?m_len ?m_isinstance ?m_int ?m_bool ?m_tuple ?m_list ?m_range ?m_max ?m_min ?m_all ?m_enumerate ?m_str ?m_sum ?m_sorted ?m_set ?g_MOST_ROOM ?g_MOST_FLOW ?g_MOST_SPAN ?g_MOST_MOMENT ?g_MOST_COST ?g_MOST_BOUNDS ?g_MOST_VISITS
    (case n_GateError => k_is)
    (case n_NoBound => k_is)
    (case n_NoMoment => k_is)
    (case n_NoCost => k_is)
    (case n_NoPlace => k_is)
    (case n_NoVisit => k_is)
    (case n_Full => k_is)
    (case n_Broken => k_is)
    (case n_Jar => k_is)
    (case n_Window => k_is)
    (case n_Book => k_is)
    (case a0_Broken => k_is)
    (case tf_Broken => k_is)
    (case i0 => k_is)
    (case l0 => k_is)
    (case c0 => k_is)
    (case k0 => k_is)
    (case a1 => k_is)
    (case l1 => k_is)
    (case c1 => k_is)
    (case k1 => k_is)
    (case a2_Jar => k_is)
    (case i2 => k_is)
    (case l2 => k_is)
    (case c2 => k_is)
    (case k2 => k_is)
    (case a3_Jar => k_is)
    (case i3 => k_is)
    (case l3 => k_is)
    (case c3 => k_is)
    (case k3 => k_is)
    (case a4_Window => k_is)
    (case i4 => k_is)
    (case l4 => k_is)
    (case c4 => k_is)
    (case k4 => k_is)
    (case a5_Window => k_is)
    (case i5 => k_is)
    (case l5 => k_is)
    (case c5 => k_is)
    (case k5 => k_is)
    (case a6 => k_is)
    (case l6 => k_is)
    (case c6 => k_is)
    (case k6 => k_is)
    (case a7 => k_is)
    (case l7 => k_is)
    (case c7 => k_is)
    (case k7 => k_is)
    (case a8 => k_is)
    (case l8 => k_is)
    (case c8 => k_is)
    (case k8 => k_is)
    (case a9 => k_is)
    (case l9 => k_is)
    (case c9 => k_is)
    (case k9 => k_is)
    (case a10 => k_is)
    (case l10 => k_is)
    (case c10 => k_is)
    (case k10 => k_is)
    (case a11 => k_is)
    (case l11 => k_is)
    (case c11 => k_is)
    (case k11 => k_is)
    (case a12 => k_is)
    (case l12 => k_is)
    (case c12 => k_is)
    (case k12 => k_is)
    (case a13 => k_is)
    (case l13 => k_is)
    (case c13 => k_is)
    (case k13 => k_is)
    (case a14 => k_is)
    (case l14 => k_is)
    (case c14 => k_is)
    (case k14 => k_is)
    (case a15 => k_is)
    (case l15 => k_is)
    (case c15 => k_is)
    (case k15 => k_is)
    (case a16_Book => k_is)
    (case i16 => k_is)
    (case l16 => k_is)
    (case c16 => k_is)
    (case k16 => k_is)
    (case a17_Book => k_is)
    (case i17 => k_is)
    (case l17 => k_is)
    (case c17 => k_is)
    (case k17 => k_is)
    (case a18_Book => k_is)
    (case i18 => k_is)
    (case l18 => k_is)
    (case c18 => k_is)
    (case k18 => k_is)
    (case a19_Book => k_is)
    (case i19 => k_is)
    (case l19 => k_is)
    (case c19 => k_is)
    (case k19 => k_is)
    (case a20_Book => k_is)
    (case i20 => k_is)
    (case l20 => k_is)
    (case c20 => k_is)
    (case k20 => k_is)
    (case a21_Book => k_is)
    (case i21 => k_is)
    (case l21 => k_is)
    (case c21 => k_is)
    (case k21 => k_is)
    (case a22_Book => k_is)
    (case i22 => k_is)
    (case l22 => k_is)
    (case c22 => k_is)
    (case k22 => k_is)
    (case a23 => k_is)
    (case l23 => k_is)
    (case c23 => k_is)
    (case k23 => k_is)
    (case a24 => k_is)
    (case l24 => k_is)
    (case c24 => k_is)
    (case k24 => k_is)
    (case a25 => k_is)
    (case l25 => k_is)
    (case c25 => k_is)
    (case k25 => k_is)
    (case a26 => k_is)
    (case l26 => k_is)
    (case c26 => k_is)
    (case k26 => k_is)
    (case a27 => k_is)
    (case l27 => k_is)
    (case c27 => k_is)
    (case k27 => k_is)
    (case a28 => k_is)
    (case l28 => k_is)
    (case c28 => k_is)
    (case k28 => k_is)
    (case a29 => k_is)
    (case l29 => k_is)
    (case c29 => k_is)
    (case k29 => k_is)
    (case a30 => k_is)
    (case l30 => k_is)
    (case c30 => k_is)
    (case k30 => k_is)
    (case a31 => k_is)
    (case l31 => k_is)
    (case c31 => k_is)
    (case k31 => k_is)
    (case a32 => k_is)
    (case l32 => k_is)
    (case c32 => k_is)
    (case k32 => k_is)
    (case a33 => k_is)
    (case l33 => k_is)
    (case c33 => k_is)
    (case k33 => k_is)
    (case a34 => k_is)
    (case l34 => k_is)
    (case c34 => k_is)
    (case k34 => k_is)
    (case a35 => k_is)
    (case l35 => k_is)
    (case c35 => k_is)
    (case k35 => k_is)
    (case a36 => k_is)
    (case l36 => k_is)
    (case c36 => k_is)
    (case k36 => k_is)
    (case a37 => k_is)
    (case l37 => k_is)
    (case c37 => k_is)
    (case k37 => k_is)
    (case a38 => k_is)
    (case l38 => k_is)
    (case c38 => k_is)
    (case k38 => k_is)
    (case a39 => k_is)
    (case l39 => k_is)
    (case c39 => k_is)
    (case k39 => k_is)
    (case a40 => k_is)
    (case l40 => k_is)
    (case c40 => k_is)
    (case k40 => k_is)
    (case mk_Jar => k_is)
    (case kc_Jar => k_is)
    (case mk_Window => k_is)
    (case kc_Window => k_is)
    (case mk_Book => k_is)
    (case kc_Book => k_is)
    (case pg_Jar => k_is)
    (case hd_Jar => k_is)
    (case po_Jar => k_is)
    (case sa_Jar => k_is)
    (case na_Jar_size => k_is)
    (case na_Jar_flow => k_is)
    (case pg_Window => k_is)
    (case hd_Window => k_is)
    (case po_Window => k_is)
    (case sa_Window => k_is)
    (case na_Window_most => k_is)
    (case na_Window_span => k_is)
    (case pg_Book => k_is)
    (case hd_Book => k_is)
    (case po_Book => k_is)
    (case sa_Book => k_is)
    (case na_Book_limits => k_is)
    (case na_Book_rows => k_is)
    (case ic_Jar => k_is)
    (case im_Jar => k_is)
    (case ic_Window => k_is)
    (case im_Window => k_is)
    (case isn => k_is)
    (case ist => k_is)
    (case xq_GateError => k_exc)
    (case xk_GateError => k_is)
    (case xb_GateError => k_is)
    (case xt_GateError => k_is)
    (case eg_GateError => k_is)
    (case ek_GateError => k_is)
    (case ed_GateError => k_is)
    (case ea_GateError => k_is)
    (case em_GateError => k_is)
    (case xq_NoBound => k_exc)
    (case xk_NoBound => k_is)
    (case xb_NoBound => k_is)
    (case xt_NoBound => k_is)
    (case eg_NoBound => k_is)
    (case ek_NoBound => k_is)
    (case ed_NoBound => k_is)
    (case ea_NoBound => k_is)
    (case em_NoBound => k_is)
    (case xq_NoMoment => k_exc)
    (case xk_NoMoment => k_is)
    (case xb_NoMoment => k_is)
    (case xt_NoMoment => k_is)
    (case eg_NoMoment => k_is)
    (case ek_NoMoment => k_is)
    (case ed_NoMoment => k_is)
    (case ea_NoMoment => k_is)
    (case em_NoMoment => k_is)
    (case xq_NoCost => k_exc)
    (case xk_NoCost => k_is)
    (case xb_NoCost => k_is)
    (case xt_NoCost => k_is)
    (case eg_NoCost => k_is)
    (case ek_NoCost => k_is)
    (case ed_NoCost => k_is)
    (case ea_NoCost => k_is)
    (case em_NoCost => k_is)
    (case xq_NoPlace => k_exc)
    (case xk_NoPlace => k_is)
    (case xb_NoPlace => k_is)
    (case xt_NoPlace => k_is)
    (case eg_NoPlace => k_is)
    (case ek_NoPlace => k_is)
    (case ed_NoPlace => k_is)
    (case ea_NoPlace => k_is)
    (case em_NoPlace => k_is)
    (case xq_NoVisit => k_exc)
    (case xk_NoVisit => k_is)
    (case xb_NoVisit => k_is)
    (case xt_NoVisit => k_is)
    (case eg_NoVisit => k_is)
    (case ek_NoVisit => k_is)
    (case ed_NoVisit => k_is)
    (case ea_NoVisit => k_is)
    (case em_NoVisit => k_is)
    (case xq_Full => k_exc)
    (case xk_Full => k_is)
    (case xb_Full => k_is)
    (case xt_Full => k_is)
    (case eg_Full => k_is)
    (case ek_Full => k_is)
    (case ed_Full => k_is)
    (case ea_Full => k_is)
    (case em_Full => k_is)
    (case ge_s => k_is)
    (case ge_r => k_is)
    (case ge_f => k_is)
    (case xl_Broken => k_is)
    (case sa_Broken => k_is)
    (case xb_Broken => k_is)
    (case xt_Broken => k_is)
    (case xk_Broken => k_is)
    (case na_Broken_k => k_is)
    (case na_Broken_stretch => k_is)
    (case eg_Broken => k_is)
    (case ek_Broken => k_is)
    (case ed_Broken => k_is)
    (case ea_Broken => k_is)
    (case em_Broken => k_is)
    (case sub_NoBound_GateError => k_is)
    (case sub_NoMoment_GateError => k_is)
    (case sub_NoCost_GateError => k_is)
    (case sub_NoPlace_GateError => k_is)
    (case sub_NoVisit_GateError => k_is)
    (case sub_Full_GateError => k_is)
    (case sub_Broken_GateError => k_is)
    (case kit_Jar_Jar => kit_is)
    (case kit_Window_Jar => kit_is)
    (case kit_Window_Window => kit_is)
    (case kit_NoneType_Jar => kit_is)
    (case kit_NoneType_Window => kit_is)
    (case kit_int_Jar => kit_is)
    (case kit_int_Window => kit_is)
    (case kit_bool_Jar => kit_is)
    (case kit_bool_Window => kit_is)
    (case kit_str_Jar => kit_is)
    (case kit_str_Window => kit_is)
    (case kit_list_Jar => kit_is)
    (case kit_list_Window => kit_is)
    (case kit_tuple_Jar => kit_is)
    (case kit_tuple_Window => kit_is)
    (case m_len => k_is)
    (case m_isinstance => k_is)
    (case m_int => k_is)
    (case m_bool => k_is)
    (case m_tuple => k_is)
    (case m_list => k_is)
    (case m_range => k_is)
    (case m_max => k_is)
    (case m_min => k_is)
    (case m_all => k_is)
    (case m_enumerate => k_is)
    (case m_str => k_is)
    (case m_sum => k_is)
    (case m_sorted => k_is)
    (case m_set => k_is)
    (case g_MOST_ROOM => k_is)
    (case g_MOST_FLOW => k_is)
    (case g_MOST_SPAN => k_is)
    (case g_MOST_MOMENT => k_is)
    (case g_MOST_COST => k_is)
    (case g_MOST_BOUNDS => k_is)
    (case g_MOST_VISITS => k_is)

