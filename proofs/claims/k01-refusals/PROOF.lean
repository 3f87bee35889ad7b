import PyProof.Rows.All
import Wide.All
import OpenK.AllK
import Wide.FinOn
import HandS.ForMost
import HandS.ForExc
import HandS.IsInst
import HandS.ExcIs
import HandS.Deep
import HandS.Flow
import HandS.Conv
import HandS.More
import HandS.CallSlots
import HandS.ExcValue
import HandS.TupAny
import HandS.Iter
import HandS.Defaults
import HandS.SetFor
import HandS.ExcInit
import HandS.SortKw
import HandS.OwnEq
import KE.KExcIs
import PySem.Challenge.RW_turnstile_k01_refusals_apart
set_option Elab.async false
set_option linter.all false
set_option maxRecDepth 100000
set_option maxHeartbeats 4000000
/-! ## The data layer: values as data (Dv), a store of mutable objects (M), what stands for what -/
namespace DL
open PySem PySem.Spec L2

inductive Dv where
  | non | bl (b : Bool) | int (i : Int) | str (x : Str) | ty (n : String) | obj (a : Addr)
  | tup (xs : List Dv) | lst (xs : List Dv) | fro (xs : List Dv)
  | ins (C : Addr) (fs : List (Str × Dv)) | exc (C : Addr) (fs : List (Str × Dv))
/-- a mutable object: an instance, a list, a dict; a dict that is walked -/
inductive MO where
  | ins (C : Addr) (fs : List (Str × Dv)) | lst (xs : List Dv) | dic (kvs : List (Key × Dv)) | fdc (kvs : List (Key × Dv))
abbrev M := Addr → Option MO
abbrev Kf := PySem.W.Frag
def updM (μ : M) (a : Addr) (o : MO) : M := fun b => if b = a then some o else μ b
def delM (μ : M) (a : Addr) : M := fun b => if b = a then none else μ b
theorem updM_same {μ : M} {a : Addr} {o : MO} : updM μ a o a = some o := by unfold updM; rw [if_pos rfl]
theorem updM_ne {μ : M} {a b : Addr} {o : MO} (h : b ≠ a) : updM μ a o b = μ b := by unfold updM; rw [if_neg h]
theorem updM_updM {μ : M} {a : Addr} {o u : MO} : updM (updM μ a o) a u = updM μ a u := by funext b; unfold updM; split <;> rfl
theorem delM_same {μ : M} {a : Addr} : delM μ a a = none := by unfold delM; rw [if_pos rfl]
theorem delM_ne {μ : M} {a b : Addr} (h : b ≠ a) : delM μ a b = μ b := by unfold delM; rw [if_neg h]
theorem delM_updM {μ : M} {a : Addr} {o : MO} (h : μ a = none) : delM (updM μ a o) a = μ := by
  funext b
  by_cases e : b = a
  · rw [e, delM_same, h]
  · rw [delM_ne e, updM_ne e]
theorem updM_comm {μ : M} {a b : Addr} {o u : MO} (h : a ≠ b) : updM (updM μ a o) b u = updM (updM μ b u) a o := by
  funext c
  by_cases e : c = a
  · subst e; rw [updM_ne h, updM_same, updM_same]
  · by_cases f : c = b
    · subst f; rw [updM_same, updM_ne e, updM_same]
    · rw [updM_ne f, updM_ne e, updM_ne e, updM_ne f]
theorem ne_ofM {μ : M} {a b : Addr} {o : MO} (h : μ a = some o) (h' : μ b = none) : a ≠ b := by intro e; subst e; rw [h] at h'; cases h'

/-- an exception object of the class cls (own dict d) at a -/
def ExD (cls : Value) (d : Option Addr) (a : Addr) : HO := .ext fun h => ∃ (oe : Obj) (vs : Array Value), h.get? a = some oe ∧ Zc cls d oe ∧ oe.data = .fields vs
/-- a list of the written part -/
def KLst (K : Kf) (a : Addr) (xs : List V) : Prop := ∃ (o : Obj) (its : Array Value) (n : Nat), K.lookup a = some o ∧ o.cls = .type "list" ∧ o.dict = none ∧ o.data = .seq its n ∧ its.size ≤ sizeLine ∧ Vals xs its.toList
mutual
inductive DRep (K : Kf) (μ : M) (H : Hp) : V → Dv → Prop where
  | non : DRep K μ H .non .non
  | bl (b : Bool) : DRep K μ H (.bl b) (.bl b)
  | int (i : Int) : DRep K μ H (.int i) (.int i)
  | str (x : Str) : DRep K μ H (.str x) (.str x)
  | ty (n : String) : DRep K μ H (.ty n) (.ty n)
  | obj (a : Addr) : DRep K μ H (.ref a) (.obj a)
  | tup {a : Addr} {vs : List V} {ds : List Dv} (h : H a = some (.tup vs)) (n : μ a = none) (r : DReps K μ H vs ds) : DRep K μ H (.ref a) (.tup ds)
  | lst {a : Addr} {vs : List V} {ds : List Dv} (h : H a = some (.lst vs)) (n : μ a = none) (r : DReps K μ H vs ds) : DRep K μ H (.ref a) (.lst ds)
  | fro {a : Addr} {vs : List V} {ds : List Dv} (h : Rd H a (.lst vs)) (n : μ a = none) (r : DReps K μ H vs ds) : DRep K μ H (.ref a) (.fro ds)
  | frk {a : Addr} {vs : List V} {ds : List Dv} (h : KLst K a vs) (r : DReps K μ H vs ds) : DRep K μ H (.ref a) (.fro ds)
  | ins {a C dx : Addr} {vs : List (Str × V)} {fs : List (Str × Dv)} (h : H a = some (.ins C dx vs)) (n : μ a = none) (r : DFlds K μ H vs fs) : DRep K μ H (.ref a) (.ins C fs)
  | exc0 {a C : Addr} (h : H a = some (ExD (.ref C) none a)) (n : μ a = none) : DRep K μ H (.ref a) (.exc C [])
  | exc1 {a C dd : Addr} {vs : List (Str × V)} {fs : List (Str × Dv)} (h : H a = some (ExD (.ref C) (some dd) a)) (n : μ a = none) (h2 : H dd = some (.xd vs)) (n2 : μ dd = none) (r : DFlds K μ H vs fs) : DRep K μ H (.ref a) (.exc C fs)
inductive DReps (K : Kf) (μ : M) (H : Hp) : List V → List Dv → Prop where
  | nil : DReps K μ H [] []
  | cons {v : V} {d : Dv} {vs : List V} {ds : List Dv} (h : DRep K μ H v d) (t : DReps K μ H vs ds) : DReps K μ H (v :: vs) (d :: ds)
inductive DFlds (K : Kf) (μ : M) (H : Hp) : List (Str × V) → List (Str × Dv) → Prop where
  | nil : DFlds K μ H [] []
  | cons {f : Str} {v : V} {d : Dv} {vs : List (Str × V)} {ds : List (Str × Dv)} (h : DRep K μ H v d) (t : DFlds K μ H vs ds) : DFlds K μ H ((f, v) :: vs) ((f, d) :: ds)
end
/-- a dict's pairs -/
inductive DKvs (K : Kf) (μ : M) (H : Hp) : List (Key × V) → List (Key × Dv) → Prop where
  | nil : DKvs K μ H [] []
  | cons {f : Key} {v : V} {d : Dv} {vs : List (Key × V)} {ds : List (Key × Dv)} (h : DRep K μ H v d) (t : DKvs K μ H vs ds) : DKvs K μ H ((f, v) :: vs) ((f, d) :: ds)

/-- what is not mutable stands -/
def Step0 (μ : M) (H : Hp) (μ' : M) (H' : Hp) : Prop := ∀ a o, H a = some o → μ a = none → H' a = some o ∧ μ' a = none
/-- and a locked dict stands -/
structure Step (μ : M) (H : Hp) (μ' : M) (H' : Hp) : Prop where
  d : Step0 μ H μ' H'
  l : ∀ a o kvs, H a = some o → μ a = some (.fdc kvs) → H' a = some o ∧ μ' a = some (.fdc kvs)
theorem Step.refl (μ : M) (H : Hp) : Step μ H μ H := ⟨fun _ _ h n => ⟨h, n⟩, fun _ _ _ h n => ⟨h, n⟩⟩
theorem Step.trans {μ μ1 μ2 : M} {H H1 H2 : Hp} (s : Step μ H μ1 H1) (t : Step μ1 H1 μ2 H2) : Step μ H μ2 H2 :=
  ⟨fun a o h n => let ⟨h1, n1⟩ := s.d a o h n; t.d a o h1 n1, fun a o kvs h n => let ⟨h1, n1⟩ := s.l a o kvs h n; t.l a o kvs h1 n1⟩
section
variable {K : Kf} {μ μ' : M} {H H' : Hp}
theorem rdStep0 (s : Step0 μ H μ' H') {a : Addr} {u : HO} (n : μ a = none) (h : Rd H a u) : Rd H' a u ∧ μ' a = none := by
  rcases h with h | ⟨o, h⟩
  · exact ⟨.inl (s _ _ h n).1, (s _ _ h n).2⟩
  · exact ⟨.inr ⟨o, (s _ _ h n).1⟩, (s _ _ h n).2⟩
mutual
theorem DRep.step0 (s : Step0 μ H μ' H') : ∀ {v : V} {d : Dv}, DRep K μ H v d → DRep K μ' H' v d
  | _, _, .non => .non
  | _, _, .bl b => .bl b
  | _, _, .int b => .int b
  | _, _, .str b => .str b
  | _, _, .ty b => .ty b
  | _, _, .obj b => .obj b
  | _, _, .tup h n r => .tup (s _ _ h n).1 (s _ _ h n).2 (DReps.step0 s r)
  | _, _, .lst h n r => .lst (s _ _ h n).1 (s _ _ h n).2 (DReps.step0 s r)
  | _, _, .fro h n r => .fro (rdStep0 s n h).1 (rdStep0 s n h).2 (DReps.step0 s r)
  | _, _, .frk h r => .frk h (DReps.step0 s r)
  | _, _, .ins h n r => .ins (s _ _ h n).1 (s _ _ h n).2 (DFlds.step0 s r)
  | _, _, .exc0 h n => .exc0 (s _ _ h n).1 (s _ _ h n).2
  | _, _, .exc1 h n h2 n2 r => .exc1 (s _ _ h n).1 (s _ _ h n).2 (s _ _ h2 n2).1 (s _ _ h2 n2).2 (DFlds.step0 s r)
theorem DReps.step0 (s : Step0 μ H μ' H') : ∀ {v : List V} {d : List Dv}, DReps K μ H v d → DReps K μ' H' v d
  | _, _, .nil => .nil
  | _, _, .cons h t => .cons (DRep.step0 s h) (DReps.step0 s t)
theorem DFlds.step0 (s : Step0 μ H μ' H') : ∀ {v : List (Str × V)} {d : List (Str × Dv)}, DFlds K μ H v d → DFlds K μ' H' v d
  | _, _, .nil => .nil
  | _, _, .cons h t => .cons (DRep.step0 s h) (DFlds.step0 s t)
end
theorem DKvs.step0 (s : Step0 μ H μ' H') : ∀ {v : List (Key × V)} {d : List (Key × Dv)}, DKvs K μ H v d → DKvs K μ' H' v d
  | _, _, .nil => .nil
  | _, _, .cons h t => .cons (DRep.step0 s h) (DKvs.step0 s t)

theorem DRep.step (s : Step μ H μ' H') {v : V} {d : Dv} (h : DRep K μ H v d) : DRep K μ' H' v d := DRep.step0 s.d h
theorem DReps.step (s : Step μ H μ' H') {v : List V} {d : List Dv} (h : DReps K μ H v d) : DReps K μ' H' v d := DReps.step0 s.d h
theorem DFlds.step (s : Step μ H μ' H') {v : List (Str × V)} {d : List (Str × Dv)} (h : DFlds K μ H v d) : DFlds K μ' H' v d := DFlds.step0 s.d h
theorem DKvs.step (s : Step μ H μ' H') {v : List (Key × V)} {d : List (Key × Dv)} (h : DKvs K μ H v d) : DKvs K μ' H' v d := DKvs.step0 s.d h

theorem DKvs.keys : ∀ {v : List (Key × V)} {d : List (Key × Dv)}, DKvs K μ H v d → v.map (·.1) = d.map (·.1)
  | _, _, .nil => rfl
  | _, _, .cons _ t => congrArg (_ :: ·) t.keys
/-! ### lists of data -/
theorem DReps.length : ∀ {vs : List V} {ds : List Dv}, DReps K μ H vs ds → vs.length = ds.length
  | _, _, .nil => rfl
  | _, _, .cons _ t => congrArg (· + 1) t.length
theorem DReps.append : ∀ {vs ws : List V} {ds es : List Dv}, DReps K μ H vs ds → DReps K μ H ws es → DReps K μ H (vs ++ ws) (ds ++ es)
  | _, _, _, _, .nil, q => q
  | _, _, _, _, .cons h t, q => .cons h (t.append q)
theorem DReps.one {v : V} {d : Dv} (h : DRep K μ H v d) : DReps K μ H [v] [d] := .cons h .nil
theorem DReps.get : ∀ {vs : List V} {ds : List Dv} {i : Nat} {d : Dv}, DReps K μ H vs ds → ds[i]? = some d → ∃ v, vs[i]? = some v ∧ DRep K μ H v d
  | _, _, _, _, .nil, e => by simp at e
  | _, _, 0, _, .cons h _, e => by simp at e; subst e; exact ⟨_, rfl, h⟩
  | _, _, i + 1, d, .cons _ t, e => by
    obtain ⟨v, h1, h2⟩ := DReps.get (i := i) (d := d) t (by simpa using e)
    exact ⟨v, by simpa using h1, h2⟩
theorem DReps.getV : ∀ {vs : List V} {ds : List Dv} {i : Nat} {v : V}, DReps K μ H vs ds → vs[i]? = some v → ∃ d, ds[i]? = some d ∧ DRep K μ H v d
  | _, _, _, _, .nil, e => by simp at e
  | _, _, 0, _, .cons h _, e => by simp at e; subst e; exact ⟨_, rfl, h⟩
  | _, _, i + 1, d, .cons _ t, e => by
    obtain ⟨v, h1, h2⟩ := DReps.getV (i := i) (v := d) t (by simpa using e)
    exact ⟨v, by simpa using h1, h2⟩
theorem DReps.take : ∀ {vs : List V} {ds : List Dv} (n : Nat), DReps K μ H vs ds → DReps K μ H (vs.take n) (ds.take n)
  | _, _, 0, _ => .nil
  | _, _, _ + 1, .nil => .nil
  | _, _, n + 1, .cons h t => .cons h (DReps.take n t)
theorem DReps.drop : ∀ {vs : List V} {ds : List Dv} (n : Nat), DReps K μ H vs ds → DReps K μ H (vs.drop n) (ds.drop n)
  | _, _, 0, r => r
  | _, _, _ + 1, .nil => .nil
  | _, _, n + 1, .cons _ t => DReps.drop n t
theorem DReps.reverse : ∀ {vs : List V} {ds : List Dv}, DReps K μ H vs ds → DReps K μ H vs.reverse ds.reverse
  | _, _, .nil => .nil
  | _, _, .cons h t => by
    rw [List.reverse_cons, List.reverse_cons]
    exact t.reverse.append (.one h)
theorem DReps.dropLast {vs : List V} {ds : List Dv} (r : DReps K μ H vs ds) : DReps K μ H vs.dropLast ds.dropLast := by
  rw [List.dropLast_eq_take, List.dropLast_eq_take, r.length]
  exact r.take _
theorem DReps.replicate {v : V} {d : Dv} (h : DRep K μ H v d) : ∀ n, DReps K μ H (List.replicate n v) (List.replicate n d)
  | 0 => .nil
  | n + 1 => .cons h (DReps.replicate h n)
theorem DReps.ints : ∀ {vs : List V} {ns : List Int}, DReps K μ H vs (ns.map Dv.int) → vs = ns.map V.int
  | _, [], .nil => rfl
  | _, n :: ns, .cons h t => by
    cases h
    rw [t.ints]
    rfl
theorem DReps.strs : ∀ {vs : List V} {ns : List Str}, DReps K μ H vs (ns.map Dv.str) → vs = ns.map V.str
  | _, [], .nil => rfl
  | _, n :: ns, .cons h t => by
    cases h
    rw [t.strs]
    rfl
theorem DReps.bls : ∀ {vs : List V} {ns : List Bool}, DReps K μ H vs (ns.map Dv.bl) → vs = ns.map V.bl
  | _, [], .nil => rfl
  | _, n :: ns, .cons h t => by
    cases h
    rw [t.bls]
    rfl
theorem DReps.ofInts : ∀ ns : List Int, DReps K μ H (ns.map V.int) (ns.map Dv.int)
  | [] => .nil
  | _ :: ns => .cons (.int _) (DReps.ofInts ns)
theorem DReps.ofStrs : ∀ ns : List Str, DReps K μ H (ns.map V.str) (ns.map Dv.str)
  | [] => .nil
  | _ :: ns => .cons (.str _) (DReps.ofStrs ns)
theorem DReps.ofBls : ∀ ns : List Bool, DReps K μ H (ns.map V.bl) (ns.map Dv.bl)
  | [] => .nil
  | _ :: ns => .cons (.bl _) (DReps.ofBls ns)

/-! ### fields -/
def putD (f : Str) (v : Dv) : List (Str × Dv) → List (Str × Dv)
  | [] => [(f, v)]
  | (g, x) :: r => if g = f then (g, v) :: r else (g, x) :: putD f v r
theorem DFlds.length : ∀ {vs : List (Str × V)} {ds : List (Str × Dv)}, DFlds K μ H vs ds → vs.length = ds.length
  | _, _, .nil => rfl
  | _, _, .cons _ t => congrArg (· + 1) t.length
theorem DFlds.put {f : Str} {v : V} {d : Dv} (h : DRep K μ H v d) : ∀ {vs : List (Str × V)} {ds : List (Str × Dv)}, DFlds K μ H vs ds → DFlds K μ H (putF f v vs) (putD f d ds)
  | _, _, .nil => .cons h .nil
  | _, _, @DFlds.cons _ _ _ g x y vs ds hx t => by
    show DFlds K μ H (if g = f then (g, v) :: vs else (g, x) :: putF f v vs) (if g = f then (g, d) :: ds else (g, y) :: putD f d ds)
    by_cases e : g = f
    · rw [if_pos e, if_pos e]; exact .cons h t
    · rw [if_neg e, if_neg e]; exact .cons hx (t.put h)
theorem DFlds.get {f : Str} {d : Dv} : ∀ {vs : List (Str × V)} {ds : List (Str × Dv)}, DFlds K μ H vs ds → ds.lookup f = some d → ∃ v, vs.lookup f = some v ∧ DRep K μ H v d
  | _, _, .nil, e => by cases e
  | _, _, @DFlds.cons _ _ _ g x y vs ds hx t, e => by
    rw [List.lookup_cons] at e ⊢
    cases hb : f == g with
    | true =>
      rw [hb] at e
      cases e
      exact ⟨x, rfl, hx⟩
    | false =>
      rw [hb] at e
      exact t.get e
theorem DFlds.none {f : Str} : ∀ {vs : List (Str × V)} {ds : List (Str × Dv)}, DFlds K μ H vs ds → ds.lookup f = Option.none → vs.lookup f = Option.none
  | _, _, .nil, _ => rfl
  | _, _, @DFlds.cons _ _ _ g x y vs ds hx t, e => by
    rw [List.lookup_cons] at e ⊢
    cases hb : f == g with
    | true => rw [hb] at e; cases e
    | false =>
      rw [hb] at e
      exact t.none e

/-! ### the store -/
def MRep (K : Kf) (μ : M) (H : Hp) (a : Addr) : MO → Prop
  | .ins C fs => ∃ dx vs, H a = some (.ins C dx vs) ∧ DFlds K μ H vs fs
  | .lst ds => ∃ vs, H a = some (.lst vs) ∧ DReps K μ H vs ds
  | .dic kvs => ∃ vs, H a = some (.dK vs) ∧ DKvs K μ H vs kvs
  | .fdc kvs => ∃ o vs, H a = some (.frz o (.dK vs)) ∧ DKvs K μ H vs kvs
def Rep (K : Kf) (μ : M) (H : Hp) : Prop := ∀ a o, μ a = some o → MRep K μ H a o
theorem MRep.tracked {a : Addr} {o : MO} (h : MRep K μ H a o) : H a ≠ Option.none := by
  cases o with
  | ins C fs => obtain ⟨_, _, e, _⟩ := h; rw [e]; simp
  | lst ds => obtain ⟨_, e, _⟩ := h; rw [e]; simp
  | dic ds => obtain ⟨_, e, _⟩ := h; rw [e]; simp
  | fdc ds => obtain ⟨_, _, e, _⟩ := h; rw [e]; simp
theorem Rep.free (r : Rep K μ H) {a : Addr} (h : H a = Option.none) : μ a = Option.none := by
  cases e : μ a with
  | none => rfl
  | some o => exact absurd h (r a o e).tracked
/-- the object itself stands, all that is not mutable stands -/
theorem MRep.step0 (s : Step0 μ H μ' H') {a : Addr} {o : MO} (ha : H' a = H a) (h : MRep K μ H a o) : MRep K μ' H' a o := by
  cases o with
  | ins C fs => obtain ⟨dx, vs, e, r⟩ := h; exact ⟨dx, vs, ha.trans e, DFlds.step0 s r⟩
  | lst ds => obtain ⟨vs, e, r⟩ := h; exact ⟨vs, ha.trans e, DReps.step0 s r⟩
  | dic ds => obtain ⟨vs, e, r⟩ := h; exact ⟨vs, ha.trans e, DKvs.step0 s r⟩
  | fdc ds => obtain ⟨o, vs, e, r⟩ := h; exact ⟨o, vs, ha.trans e, DKvs.step0 s r⟩
theorem MRep.step (s : Step μ H μ' H') {a : Addr} {o : MO} (ha : H' a = H a) (h : MRep K μ H a o) : MRep K μ' H' a o := MRep.step0 s.d ha h
/-- a new object that is data -/
theorem Step.new {p : Addr} {o : HO} (h : H p = Option.none) : Step μ H μ (upd H p o) := ⟨fun a u e n => ⟨by rw [upd_ne (ne_of_none e h)]; exact e, n⟩, fun a u _ e n => ⟨by rw [upd_ne (ne_of_none e h)]; exact e, n⟩⟩
theorem Rep.new {p : Addr} {o : HO} (r : Rep K μ H) (h : H p = Option.none) : Rep K μ (upd H p o) := fun a u e =>
  (r a u e).step (Step.new h) (upd_ne (by intro z; subst z; exact (r a u e).tracked h))
/-- a new mutable object -/
theorem Step.newM {p : Addr} {o : HO} {u : MO} (h : H p = Option.none) : Step μ H (updM μ p u) (upd H p o) :=
  ⟨fun a v e n => ⟨by rw [upd_ne (ne_of_none e h)]; exact e, by rw [updM_ne (ne_of_none e h)]; exact n⟩,
    fun a v _ e n => ⟨by rw [upd_ne (ne_of_none e h)]; exact e, by rw [updM_ne (ne_of_none e h)]; exact n⟩⟩
theorem Rep.put {p : Addr} {o : HO} {u : MO} (r : Rep K μ H) (s : Step μ H (updM μ p u) (upd H p o)) (new : MRep K (updM μ p u) (upd H p o) p u) : Rep K (updM μ p u) (upd H p o) := fun a v e => by
  by_cases z : a = p
  · subst z
    rw [updM_same] at e
    cases e
    exact new
  · rw [updM_ne z] at e
    exact (r a v e).step s (upd_ne z)
/-- a mutable object is changed -/
theorem Step.mut {p : Addr} {o : HO} {u v : MO} (h : μ p = some v) (hv : ∀ k, v ≠ .fdc k := by intro k z; cases z) : Step μ H (updM μ p u) (upd H p o) :=
  ⟨fun a w e n =>
    have z : a ≠ p := fun z => by rw [z, h] at n; cases n
    ⟨by rw [upd_ne z]; exact e, by rw [updM_ne z]; exact n⟩, fun a w k e n =>
    have z : a ≠ p := fun z => by rw [z, h] at n; exact hv k (Option.some.inj n)
    ⟨by rw [upd_ne z]; exact e, by rw [updM_ne z]; exact n⟩⟩
/-- a mutable object becomes data -/
theorem Step.freeze {p : Addr} {v : MO} (h : μ p = some v) (hv : ∀ k, v ≠ .fdc k := by intro k z; cases z) : Step μ H (delM μ p) H := ⟨fun a w e n => ⟨e, by
    by_cases z : a = p
    · rw [z, delM_same]
    · rw [delM_ne z]; exact n⟩, fun a w k e n => ⟨e, by
    have z : a ≠ p := fun z => by rw [z, h] at n; exact hv k (Option.some.inj n)
    rw [delM_ne z]; exact n⟩⟩
theorem Rep.freeze {p : Addr} {w : MO} (r : Rep K μ H) (h : μ p = some w) (hv : ∀ k, w ≠ .fdc k := by intro k z; cases z) : Rep K (delM μ p) H := fun a v e => by
  by_cases z : a = p
  · subst z; rw [delM_same] at e; cases e
  · rw [delM_ne z] at e
    exact (r a v e).step (Step.freeze h hv) rfl

/-! ### the names -/
abbrev En := List (Option Dv)
def Env (K : Kf) (μ : M) (H : Hp) (σ : St) (e : En) : Prop := σ.length = e.length ∧ ∀ (i : Nat) (d : Dv), e[i]? = some (some d) → ∃ v, σ[i]? = some (some v) ∧ DRep K μ H v d
theorem Env.step {σ : St} {e : En} (s : Step μ H μ' H') (h : Env K μ H σ e) : Env K μ' H' σ e := ⟨h.1, fun i d q => let ⟨v, a, b⟩ := h.2 i d q; ⟨v, a, b.step s⟩⟩
theorem Env.set {σ : St} {e : En} {v : V} {d : Dv} (h : Env K μ H σ e) (r : DRep K μ H v d) (i : Nat) : Env K μ H (σ.set i (some v)) (e.set i (some d)) := by
  refine ⟨by rw [List.length_set, List.length_set]; exact h.1, fun j x q => ?_⟩
  by_cases z : i = j
  · subst z
    by_cases hl : i < e.length
    · rw [List.getElem?_set_self hl] at q
      cases q
      exact ⟨v, List.getElem?_set_self (by rw [h.1]; exact hl), r⟩
    · rw [List.getElem?_eq_none (by rw [List.length_set]; omega)] at q
      cases q
  · rw [List.getElem?_set_ne z] at q ⊢
    exact h.2 j x q
/-- a name forgotten -/
theorem Env.unset {σ : St} {e : En} (h : Env K μ H σ e) (o : Option V) (i : Nat) : Env K μ H (σ.set i o) (e.set i Option.none) := by
  refine ⟨by rw [List.length_set, List.length_set]; exact h.1, fun j x q => ?_⟩
  by_cases z : i = j
  · subst z
    by_cases hl : i < e.length
    · rw [List.getElem?_set_self hl] at q
      cases q
    · rw [List.getElem?_eq_none (by rw [List.length_set]; omega)] at q
      cases q
  · rw [List.getElem?_set_ne z] at q ⊢
    exact h.2 j x q
def wipeE (e : En) : List Nat → En
  | [] => e
  | v :: vs => (wipeE e vs).set v Option.none
theorem Env.wipe {σ : St} {e : En} (h : Env K μ H σ e) : ∀ vs : List Nat, Env K μ H (wipe σ vs) (wipeE e vs)
  | [] => h
  | v :: vs => (h.wipe vs).unset _ v
/-- less is told -/
def LeE (e e' : En) : Prop := e.length = e'.length ∧ ∀ (i : Nat) (d : Dv), e'[i]? = some (some d) → e[i]? = some (some d)
theorem Env.le {σ : St} {e e' : En} (h : Env K μ H σ e) (l : LeE e e') : Env K μ H σ e' := ⟨h.1.trans l.1, fun i d q => h.2 i d (l.2 i d q)⟩
theorem Env.start : ∀ {vs : List V} {ds : List Dv} (n : Nat), DReps K μ H vs ds → Env K μ H (vs.map some ++ List.replicate n Option.none) (ds.map some ++ List.replicate n Option.none) := fun {vs ds} n r => by
  refine ⟨by simp [r.length], fun i d q => ?_⟩
  by_cases z : i < ds.length
  · rw [List.getElem?_append_left (by simpa using z), List.getElem?_map] at q
    cases e : ds[i]? with
    | none => rw [e] at q; cases q
    | some x =>
      rw [e] at q
      cases q
      obtain ⟨v, h1, h2⟩ := r.get e
      refine ⟨v, ?_, h2⟩
      rw [List.getElem?_append_left (by simpa [r.length] using z), List.getElem?_map, h1]
      rfl
  · rw [List.getElem?_append_right (by simpa using z), List.getElem?_replicate] at q
    split at q <;> cases q

/-! ### exceptions as data -/
def XRep (K : Kf) (μ : M) (H : Hp) (d : Option Addr) (fs : List (Str × Dv)) : Prop := match d with
  | none => fs = []
  | some dd => ∃ vs, H dd = some (.xd vs) ∧ μ dd = Option.none ∧ DFlds K μ H vs fs
theorem XRep.step {d : Option Addr} {fs : List (Str × Dv)} (s : Step μ H μ' H') (h : XRep K μ H d fs) : XRep K μ' H' d fs := by
  cases d with
  | none => exact h
  | some dd => obtain ⟨vs, e, n, r⟩ := h; exact ⟨vs, (s.d _ _ e n).1, (s.d _ _ e n).2, r.step s⟩
abbrev DK := Dv → M → Prop
abbrev XD := Value → List (Str × Dv) → En → M → Prop
/-- what is wished of an exception, told by data -/
def Thr (K : Kf) (W : WX) (KE : XD) (μ : M) (H : Hp) : Prop := ∀ cls fs d σ' e' H' μ', KE cls fs e' μ' → Env K μ' H' σ' e' → Step μ H μ' H' → Rep K μ' H' → XRep K μ' H' d fs → W cls d σ' H'
theorem Thr.step {W : WX} {KE : XD} (s : Step μ H μ' H') (h : Thr K W KE μ H) : Thr K W KE μ' H' := fun cls fs d σ' e' H2 μ2 a b c => h cls fs d σ' e' H2 μ2 a b (s.trans c)
end
end DL

/-! ## Judgements over data; expressions -/
namespace DL
open PySem PySem.Spec L2
def cE (X : Cx) (e : Expr) : TE := fun σ H Q => ∀ (pins : List (Addr × Obj)) (s : Shared), Inv X pins σ H s → wpAny (model X.prog X.w) X.A (eval e X.env) (EP X pins σ Q) X.xe s
theorem peC {X : Cx} {e : Expr} : PE X e (cE X e) := ⟨fun pins s _ _ _ I h => h pins s I⟩
def cT (X : Cx) (e : Expr) : TT := fun σ H Q => ∀ (pins : List (Addr × Obj)) (s : Shared), Inv X pins σ H s → wpAny (model X.prog X.w) X.A (isTrue e X.env (eval e X.env)) (TP X pins σ Q) X.xe s
theorem ptC {X : Cx} {e : Expr} : PT X e (cT X e) := ⟨fun pins s _ _ _ I h => h pins s I⟩
def cW (X : Cx) (e : Expr) : TT := fun σ H Q => ∀ (whole : Sem Value) (pins : List (Addr × Obj)) (s : Shared), Inv X pins σ H s → wpAny (model X.prog X.w) X.A (isTrue e X.env whole) (TP X pins σ Q) X.xe s
theorem pwC {X : Cx} {e : Expr} : PW X e (cW X e) := ⟨fun w pins s _ _ _ I h => h w pins s I⟩
def cA (X : Cx) (es : List Expr) : TA := fun σ H Q => ∀ (pos : Pos) (pins : List (Addr × Obj)) (s : Shared), Inv X pins σ H s → wpAny (model X.prog X.w) X.A (spliced (backTo pos (starEach es X.env))) (AP X pins σ Q) X.xe s
theorem paC {X : Cx} {es : List Expr} : PA X es (cA X es) := ⟨fun pos pins s _ _ _ I h => h pos pins s I⟩
def cS (X : Cx) (st : Stmt) : TS := fun D σ H => ∀ (pins : List (Addr × Obj)) (s : Shared), Inv X pins σ H s → wpAny (model X.prog X.w) X.A (exec st X.env) (SP X pins D) X.xe s
theorem psC {X : Cx} {st : Stmt} : PS X st (cS X st) := ⟨fun pins s _ _ _ I h => h pins s I⟩
def cB (X : Cx) (st : List Stmt) : TS := fun D σ H => ∀ (pins : List (Addr × Obj)) (s : Shared), Inv X pins σ H s → wpAny (model X.prog X.w) X.A (execs st X.env) (SP X pins D) X.xe s
theorem pbC {X : Cx} {st : List Stmt} : PSs X st (cB X st) := ⟨fun pins s _ _ _ I h => h pins s I⟩

structure Cok (k : Nat) (X : Cx) (W : WX) : Prop where
  room : Room k X.A
  calm : X.calm = true
  tk : Takes X W
  nd : X.N.Nodup

/-- from k to Q -/
def Tl (K : Kf) (μ : M) (H : Hp) (k : DK) (Q : VK) : Prop := ∀ v d H' μ', k d μ' → Step μ H μ' H' → Rep K μ' H' → DRep K μ' H' v d → Q v H'
def TlB (K : Kf) (μ : M) (H : Hp) (k : Bool → M → Prop) (Q : Bool → Hp → Prop) : Prop := ∀ b H' μ', k b μ' → Step μ H μ' H' → Rep K μ' H' → Q b H'
def TlA (K : Kf) (μ : M) (H : Hp) (k : List Dv → M → Prop) (Q : List V → Hp → Prop) : Prop := ∀ v d H' μ', k d μ' → Step μ H μ' H' → Rep K μ' H' → DReps K μ' H' v d → Q v H'
theorem Tl.step {K : Kf} {μ μ1 : M} {H H1 : Hp} {k : DK} {Q : VK} (s : Step μ H μ1 H1) (h : Tl K μ H k Q) : Tl K μ1 H1 k Q := fun v d H' μ' a b c => h v d H' μ' a (s.trans b) c
theorem TlB.step {K : Kf} {μ μ1 : M} {H H1 : Hp} {k : Bool → M → Prop} {Q : Bool → Hp → Prop} (s : Step μ H μ1 H1) (h : TlB K μ H k Q) : TlB K μ1 H1 k Q := fun v H' μ' a b c => h v H' μ' a (s.trans b) c
theorem TlA.step {K : Kf} {μ μ1 : M} {H H1 : Hp} {k : List Dv → M → Prop} {Q : List V → Hp → Prop} (s : Step μ H μ1 H1) (h : TlA K μ H k Q) : TlA K μ1 H1 k Q := fun v d H' μ' a b c => h v d H' μ' a (s.trans b) c
section
variable (X : Cx) (W : WX) (KE : XD)
def JE (e : Expr) (n : En) (μ : M) (k : DK) : Prop := ∀ (σ : L2.St) (H : Hp) (Q : VK), Env X.K μ H σ n → Rep X.K μ H → Thr X.K W KE μ H → Tl X.K μ H k Q → cE X e σ H Q
def JT (e : Expr) (n : En) (μ : M) (k : Bool → M → Prop) : Prop := ∀ (σ : L2.St) (H : Hp) (Q : Bool → Hp → Prop), Env X.K μ H σ n → Rep X.K μ H → Thr X.K W KE μ H → TlB X.K μ H k Q → cT X e σ H Q
def JW (e : Expr) (n : En) (μ : M) (k : Bool → M → Prop) : Prop := ∀ (σ : L2.St) (H : Hp) (Q : Bool → Hp → Prop), Env X.K μ H σ n → Rep X.K μ H → Thr X.K W KE μ H → TlB X.K μ H k Q → cW X e σ H Q
def JA (es : List Expr) (n : En) (μ : M) (k : List Dv → M → Prop) : Prop := ∀ (σ : L2.St) (H : Hp) (Q : List V → Hp → Prop), Env X.K μ H σ n → Rep X.K μ H → Thr X.K W KE μ H → TlA X.K μ H k Q → cA X es σ H Q
end
/-- an operation on data -/
def DOp (K : Kf) (r : R2) (x y : Dv) (μ : M) (k : DK) : Prop := ∀ u v H Q, Rep K μ H → DRep K μ H u x → DRep K μ H v y → Tl K μ H k Q → r u v H Q
def DUn (K : Kf) (r : V → Hp → VK → Prop) (x : Dv) (μ : M) (k : DK) : Prop := ∀ u H Q, Rep K μ H → DRep K μ H u x → Tl K μ H k Q → r u H Q
def DCl (K : Kf) (r : List V → Hp → VK → Prop) (xs : List Dv) (μ : M) (k : DK) : Prop := ∀ us H Q, Rep K μ H → DReps K μ H us xs → Tl K μ H k Q → r us H Q
section
variable {X : Cx} {W : WX} {KE : XD} {e a b c : Expr} {es rest : List Expr} {n : En} {μ : M} {k : DK} {pos p : Pos} {x : Str} {K : Kf}
theorem je_of {t : TE} (h : PE X e t) (q : ∀ (σ : L2.St) (H : Hp) (Q : VK), Env X.K μ H σ n → Rep X.K μ H → Thr X.K W KE μ H → Tl X.K μ H k Q → t σ H Q) : JE X W KE e n μ k := fun σ H Q a b c d pins s I => h.run pins s σ H Q I (q σ H Q a b c d)
theorem jt_of {k : Bool → M → Prop} {t : TT} (h : PT X e t) (q : ∀ (σ : L2.St) (H : Hp) (Q : Bool → Hp → Prop), Env X.K μ H σ n → Rep X.K μ H → Thr X.K W KE μ H → TlB X.K μ H k Q → t σ H Q) : JT X W KE e n μ k := fun σ H Q a b c d pins s I => h.run pins s σ H Q I (q σ H Q a b c d)
theorem jw_of {k : Bool → M → Prop} {t : TT} (h : PW X e t) (q : ∀ (σ : L2.St) (H : Hp) (Q : Bool → Hp → Prop), Env X.K μ H σ n → Rep X.K μ H → Thr X.K W KE μ H → TlB X.K μ H k Q → t σ H Q) : JW X W KE e n μ k := fun σ H Q a b c d w pins s I => h.run w pins s σ H Q I (q σ H Q a b c d)
theorem JE.mono {k' : DK} (h : JE X W KE e n μ k) (q : ∀ d μ', k d μ' → k' d μ') : JE X W KE e n μ k' := fun σ H Q a b c d => h σ H Q a b c fun v d' H' μ' z => d v d' H' μ' (q _ _ z)
theorem JT.mono {k k' : Bool → M → Prop} (h : JT X W KE e n μ k) (q : ∀ d μ', k d μ' → k' d μ') : JT X W KE e n μ k' := fun σ H Q a b c d => h σ H Q a b c fun v H' μ' z => d v H' μ' (q _ _ z)
/-- the end of a pure thing -/
theorem tl_pure {H : Hp} {Q : VK} {u : V} {d : Dv} (t : Tl K μ H k Q) (h : k d μ) (r : Rep K μ H) (q : DRep K μ H u d) : Q u H := t u d H μ h (Step.refl μ H) r q
/-- a new object that is data -/
theorem tl_new {H : Hp} {Q : VK} {p : Addr} {o : HO} {d : Dv} (t : Tl K μ H k Q) (h : k d μ) (r : Rep K μ H) (hp : H p = none) (q : DRep K μ (upd H p o) (.ref p) d) : Q (.ref p) (upd H p o) := t _ d _ μ h (Step.new hp) (r.new hp) q

/-! ### names, constants -/
theorem je_name (i : Nat) {d : Dv} (hN : X.N[i]? = some x) (hn : n[i]? = some (some d)) (h : k d μ) (hv : Vis X.env.scope x := by first | exact Or.inl rfl | exact Or.inr (Or.inl rfl) | exact Or.inr (Or.inr rfl)) (hd : (x == ("__debug__" : Str)) = false := by decide)
    (hcd : (x == ("__classdict__" : Str)) = false := by decide) : JE X W KE (.Name x p) n μ k := je_of (pe_var hN hv hd hcd) fun σ H Q ev r t q => by
  obtain ⟨v, h1, h2⟩ := ev.2 i d hn
  exact ⟨v, h1, tl_pure q h r h2⟩
theorem je_int {i : Int} {j : Nat} (h : k (.int i) μ) : JE X W KE (.Constant (.int i) j pos) n μ k := je_of pe_int fun σ H Q ev r t q => tl_pure q h r (.int i)
theorem je_bl {i : Bool} {j : Nat} (h : k (.bl i) μ) : JE X W KE (.Constant (.bool i) j pos) n μ k := je_of pe_bl fun σ H Q ev r t q => tl_pure q h r (.bl i)
theorem je_non {j : Nat} (h : k .non μ) : JE X W KE (.Constant .none j pos) n μ k := je_of pe_non fun σ H Q ev r t q => tl_pure q h r .non
theorem je_str {z : Str} {j : Nat} (h : k (.str z) μ) : JE X W KE (.Constant (.str z) j pos) n μ k := je_of pe_str fun σ H Q ev r t q => tl_pure q h r (.str z)
/-- a module's constant that needs no heap -/
inductive CRel : Dv → V → Prop where
  | int (i : Int) : CRel (.int i) (.int i)
  | str (x : Str) : CRel (.str x) (.str x)
  | obj (a : Addr) : CRel (.obj a) (.ref a)
  | ty (n : String) : CRel (.ty n) (.ty n)
  | non : CRel .non .non
  | bl (b : Bool) : CRel (.bl b) (.bl b)
theorem CRel.rep {d : Dv} {v : V} {H : Hp} (c : CRel d v) : DRep K μ H v d := by
  cases c <;> constructor
/-- what the module's name x holds, as data -/
def Gv (mg : Str → Option Value) (x : Str) (d : Dv) : Prop := ∃ u v, mg x = some u ∧ RelV v u ∧ CRel d v
theorem je_glob {d : Dv} (g : Gv X.mg x d) (h : k d μ) (hg : Gl X x := by rfl) (hd : (x == ("__debug__" : Str)) = false := by decide) : JE X W KE (.Name x p) n μ k := by
  obtain ⟨u, v, h1, h2, h3⟩ := g
  exact je_of (pe_glob hg h1 h2 hd) fun σ H Q ev r t q => tl_pure q h r h3.rep
theorem je_bty {T : String} (hm : X.mg x = none) (hv : bootBuiltins x = some (.type T)) (h : k (.ty T) μ) (hg : Gl X x := by rfl) (hn : x ≠ "__name__" := by decide) (hd : (x == ("__debug__" : Str)) = false := by decide) : JE X W KE (.Name x p) n μ k :=
  je_of (pe_bltn hg hm hv (v := .ty T) rfl hn hd) fun σ H Q ev r t q => tl_pure q h r (.ty T)

/-! ### operators -/
theorem je_bin {op : Operator} {r : R2} (ho : OpR X (binaryOp op) r) (h : JE X W KE a n μ fun x μ1 => JE X W KE b n μ1 fun y μ2 => DOp X.K r x y μ2 k) : JE X W KE (.BinOp a op b pos) n μ k :=
  je_of (pe_op ho peC peC) fun σ H Q ev rp t q => by
    refine h σ H _ ev rp t fun u x H1 μ1 h1 s1 r1 d1 => ?_
    refine h1 σ H1 _ (ev.step s1) r1 (t.step s1) fun v y H2 μ2 h2 s2 r2 d2 => ?_
    exact h2 u v H2 Q r2 (d1.step s2) d2 (q.step (s1.trans s2))
theorem je_un {op : UnaryOp} {r : V → Hp → VK → Prop} (ho : UnR X (unaryOp op) r) (h : JE X W KE a n μ fun x μ1 => DUn X.K r x μ1 k) : JE X W KE (.UnaryOp op a pos) n μ k :=
  je_of (pe_un ho peC) fun σ H Q ev rp t q => by
    refine h σ H _ ev rp t fun u x H1 μ1 h1 s1 r1 d1 => ?_
    exact h1 u H1 Q r1 d1 (q.step s1)
theorem je_cmp {op : CmpOp} {r : R2} (ho : OpR X (compareOp op) r) (hm : behindInMarks op b = false) (h : JE X W KE a n μ fun x μ1 => JE X W KE b n μ1 fun y μ2 => DOp X.K r x y μ2 k) : JE X W KE (.Compare a [op] [b] pos) n μ k :=
  je_of (pe_cmpR ho peC peC hm) fun σ H Q ev rp t q => by
    refine h σ H _ ev rp t fun u x H1 μ1 h1 s1 r1 d1 => ?_
    refine h1 σ H1 _ (ev.step s1) r1 (t.step s1) fun v y H2 μ2 h2 s2 r2 d2 => ?_
    exact h2 u v H2 Q r2 (d1.step s2) d2 (q.step (s1.trans s2))
/-- a op b op' c -/
theorem je_chain {op op' : CmpOp} {r r' : R2} (ho : OpR X (compareOp op) r) (ho' : OpR X (compareOp op') r')
    (h : JE X W KE a n μ fun x μ1 => JE X W KE b n μ1 fun y μ2 => DOp X.K r x y μ2 fun z μ3 => ∃ b, z = .bl b ∧ (b = true → JE X W KE c n μ3 fun w μ4 => DOp X.K r' y w μ4 k) ∧ (b = false → k (.bl false) μ3))
    (hm : lastMarks [op, op'] [b, c] = false := by with_unfolding_all rfl) : JE X W KE (.Compare a [op, op'] [b, c] pos) n μ k :=
  je_of (pe_chain ho ho' peC peC peC hm) fun σ H Q ev rp t q => by
    refine h σ H _ ev rp t fun u x H1 μ1 h1 s1 r1 d1 => ?_
    refine h1 σ H1 _ (ev.step s1) r1 (t.step s1) fun v y H2 μ2 h2 s2 r2 d2 => ?_
    refine h2 u v H2 _ r2 (d1.step s2) d2 fun z d3 H3 μ3 h3 s3 r3 d3' => ?_
    obtain ⟨b, rfl, ht, hf⟩ := h3
    cases d3'
    refine ⟨b, rfl, ?_⟩
    have s13 := (s1.trans s2).trans s3
    cases b with
    | true =>
      rw [if_pos rfl]
      refine ht rfl σ H3 _ (ev.step s13) r3 (t.step s13) fun w y4 H4 μ4 h4 s4 r4 d4 => ?_
      exact h4 v w H4 Q r4 (d2.step (s3.trans s4)) d4 (q.step (s13.trans s4))
    | false =>
      rw [if_neg Bool.false_ne_true]
      exact tl_pure (q.step s13) (hf rfl) r3 (.bl false)
/-- a and b, a or b, not a, a if t else b, as values -/
theorem je_one {op : BoolOp} (h : JE X W KE a n μ k) : JE X W KE (.BoolOp op [a] pos) n μ k := je_of (pe_one peC) fun σ H Q ev rp t q => h σ H Q ev rp t q
theorem je_and (h : JE X W KE a n μ fun x μ1 => ∃ c, x = .bl c ∧ (c = true → JE X W KE (.BoolOp .And (b :: rest) pos) n μ1 k) ∧ (c = false → k (.bl false) μ1)) : JE X W KE (.BoolOp .And (a :: b :: rest) pos) n μ k :=
  je_of (pe_and peC peC) fun σ H Q ev rp t q => by
    refine h σ H _ ev rp t fun u x H1 μ1 h1 s1 r1 d1 => ?_
    obtain ⟨c, rfl, ht, hf⟩ := h1
    cases d1
    refine ⟨c, rfl, ?_⟩
    cases c with
    | true => rw [if_pos rfl]; exact ht rfl σ H1 Q (ev.step s1) r1 (t.step s1) (q.step s1)
    | false => rw [if_neg Bool.false_ne_true]; exact tl_pure (q.step s1) (hf rfl) r1 (.bl false)
theorem je_or (h : JE X W KE a n μ fun x μ1 => ∃ c, x = .bl c ∧ (c = true → k (.bl true) μ1) ∧ (c = false → JE X W KE (.BoolOp .Or (b :: rest) pos) n μ1 k)) : JE X W KE (.BoolOp .Or (a :: b :: rest) pos) n μ k :=
  je_of (pe_or peC peC) fun σ H Q ev rp t q => by
    refine h σ H _ ev rp t fun u x H1 μ1 h1 s1 r1 d1 => ?_
    obtain ⟨c, rfl, ht, hf⟩ := h1
    cases d1
    refine ⟨c, rfl, ?_⟩
    cases c with
    | true => rw [if_pos rfl]; exact tl_pure (q.step s1) (ht rfl) r1 (.bl true)
    | false => rw [if_neg Bool.false_ne_true]; exact hf rfl σ H1 Q (ev.step s1) r1 (t.step s1) (q.step s1)
theorem je_not (h : JE X W KE a n μ fun x μ1 => ∃ c, x = .bl c ∧ k (.bl (!c)) μ1) : JE X W KE (.UnaryOp .Not a pos) n μ k :=
  je_of (pe_not peC) fun σ H Q ev rp t q => by
    refine h σ H _ ev rp t fun u x H1 μ1 h1 s1 r1 d1 => ?_
    obtain ⟨c, rfl, h2⟩ := h1
    cases d1
    exact ⟨c, rfl, tl_pure (q.step s1) h2 r1 (.bl _)⟩
theorem je_ite (h : JT X W KE c n μ fun t μ1 => (t = true → JE X W KE a n μ1 k) ∧ (t = false → JE X W KE b n μ1 k)) : JE X W KE (.IfExp c a b pos) n μ k :=
  je_of (pe_ifExp ptC peC peC) fun σ H Q ev rp t q => by
    refine h σ H _ ev rp t fun u H1 μ1 h1 s1 r1 => ?_
    cases u with
    | true => rw [if_pos rfl]; exact h1.1 rfl σ H1 Q (ev.step s1) r1 (t.step s1) (q.step s1)
    | false => rw [if_neg Bool.false_ne_true]; exact h1.2 rfl σ H1 Q (ev.step s1) r1 (t.step s1) (q.step s1)

/-! ### tests -/
section
variable {kb : Bool → M → Prop}
theorem jt_val (h : JE X W KE e n μ fun x μ1 => ∃ c, x = .bl c ∧ kb c μ1) (he : ∀ whole, isTrue e X.env whole = (do let v ← whole; standAt e.pos; holding [v] (truthy v)) := by intro _; rfl) : JT X W KE e n μ kb :=
  jt_of (pt_val peC he) fun σ H Q ev rp t q => by
    refine h σ H _ ev rp t fun u x H1 μ1 h1 s1 r1 d1 => ?_
    obtain ⟨c, rfl, h2⟩ := h1
    cases d1
    exact ⟨c, rfl, q _ _ μ1 h2 s1 r1⟩
theorem jt_not (h : JT X W KE a n μ fun c μ1 => kb (!c) μ1) : JT X W KE (.UnaryOp .Not a pos) n μ kb :=
  jt_of (pt_not ptC) fun σ H Q ev rp t q => h σ H _ ev rp t fun u H1 μ1 h1 s1 r1 => q _ _ μ1 h1 s1 r1
theorem jt_w (h : JW X W KE e n μ kb) : JT X W KE e n μ kb := jt_of pwC.pt fun σ H Q ev rp t q => h σ H Q ev rp t q
theorem jw_and1 (h : JT X W KE a n μ kb) : JW X W KE (.BoolOp .And [a] pos) n μ kb := jw_of (pw_and1 ptC) fun σ H Q ev rp t q => h σ H Q ev rp t q
theorem jw_or1 (h : JT X W KE a n μ kb) : JW X W KE (.BoolOp .Or [a] pos) n μ kb := jw_of (pw_or1 ptC) fun σ H Q ev rp t q => h σ H Q ev rp t q
theorem jw_and (h : JT X W KE a n μ fun c μ1 => (c = true → JW X W KE (.BoolOp .And (b :: rest) pos) n μ1 kb) ∧ (c = false → kb false μ1)) : JW X W KE (.BoolOp .And (a :: b :: rest) pos) n μ kb :=
  jw_of (pw_and ptC pwC) fun σ H Q ev rp t q => by
    refine h σ H _ ev rp t fun u H1 μ1 h1 s1 r1 => ?_
    cases u with
    | true => rw [if_pos rfl]; exact h1.1 rfl σ H1 Q (ev.step s1) r1 (t.step s1) (q.step s1)
    | false => rw [if_neg Bool.false_ne_true]; exact q _ _ μ1 (h1.2 rfl) s1 r1
theorem jw_or (h : JT X W KE a n μ fun c μ1 => (c = true → kb true μ1) ∧ (c = false → JW X W KE (.BoolOp .Or (b :: rest) pos) n μ1 kb)) : JW X W KE (.BoolOp .Or (a :: b :: rest) pos) n μ kb :=
  jw_of (pw_or ptC pwC) fun σ H Q ev rp t q => by
    refine h σ H _ ev rp t fun u H1 μ1 h1 s1 r1 => ?_
    cases u with
    | true => rw [if_pos rfl]; exact q _ _ μ1 (h1.1 rfl) s1 r1
    | false => rw [if_neg Bool.false_ne_true]; exact h1.2 rfl σ H1 Q (ev.step s1) r1 (t.step s1) (q.step s1)
end

/-! ### arguments, displays -/
section
variable {ka : List Dv → M → Prop}
theorem ja_nil (h : ka [] μ) : JA X W KE [] n μ ka := fun σ H Q ev rp t q pos pins s I => pa_nil.run pos pins s σ H Q I (q _ _ _ μ h (Step.refl _ _) rp .nil)
theorem ja_cons (h : JE X W KE a n μ fun x μ1 => JA X W KE rest n μ1 fun xs μ2 => ka (x :: xs) μ2) (hs : starEach (a :: rest) X.env = (false, eval a X.env) :: starEach rest X.env := by rfl) : JA X W KE (a :: rest) n μ ka := fun σ H Q ev rp t q pos pins s I => by
  refine (pa_cons peC paC hs).run pos pins s σ H Q I ?_
  refine h σ H _ ev rp t fun u x H1 μ1 h1 s1 r1 d1 => ?_
  refine h1 σ H1 _ (ev.step s1) r1 (t.step s1) fun us xs H2 μ2 h2 s2 r2 d2 => ?_
  exact q _ _ H2 μ2 h2 (s1.trans s2) r2 (.cons (d1.step s2) d2)
theorem ja_one (h : JE X W KE a n μ fun x μ1 => ka [x] μ1) (hs : starEach [a] X.env = (false, eval a X.env) :: starEach [] X.env := by rfl) : JA X W KE [a] n μ ka := ja_cons (h.mono fun _ _ z => ja_nil z) hs
end
theorem je_tup {kk} (h : JA X W KE es n μ fun xs μ1 => xs.length ≤ sizeLine ∧ k (.tup xs) μ1) : JE X W KE (.Tuple es kk pos) n μ k :=
  je_of (pe_tup paC) fun σ H Q ev rp t q => by
    refine h σ H _ ev rp t fun us xs H1 μ1 h1 s1 r1 d1 => ⟨by rw [d1.length]; exact h1.1, fun p hp => ?_⟩
    exact tl_new (q.step s1) h1.2 r1 hp (.tup upd_same (r1.free hp) (d1.step (Step.new hp)))
theorem je_lst (h : JA X W KE es n μ fun xs μ1 => xs.length ≤ sizeLine ∧ k (.lst xs) μ1) : JE X W KE (.List es pos) n μ k :=
  je_of (pe_lst paC) fun σ H Q ev rp t q => by
    refine h σ H _ ev rp t fun us xs H1 μ1 h1 s1 r1 d1 => ⟨by rw [d1.length]; exact h1.1, fun p hp => ?_⟩
    exact tl_new (q.step s1) h1.2 r1 hp (.lst upd_same (r1.free hp) (d1.step (Step.new hp)))
/-- a display that stays mutable -/
theorem je_lstM (h : JA X W KE es n μ fun xs μ1 => xs.length ≤ sizeLine ∧ ∀ a, μ1 a = none → k (.obj a) (updM μ1 a (.lst xs))) : JE X W KE (.List es pos) n μ k :=
  je_of (pe_lst paC) fun σ H Q ev rp t q => by
    refine h σ H _ ev rp t fun us xs H1 μ1 h1 s1 r1 d1 => ⟨by rw [d1.length]; exact h1.1, fun p hp => ?_⟩
    have s2 : Step μ1 H1 (updM μ1 p (.lst xs)) (upd H1 p (.lst us)) := Step.newM hp
    exact q _ _ _ _ (h1.2 p (r1.free hp)) (s1.trans s2) (r1.put s2 ⟨us, upd_same, d1.step s2⟩) (.obj p)
/-- {} -/
theorem je_dnew (h : ∀ a, μ a = none → k (.obj a) (updM μ a (.dic []))) : JE X W KE (.Dict [] [] pos) n μ k :=
  je_of pe_dnewK fun σ H Q ev rp t q => fun p hp => by
    have s2 : Step μ H (updM μ p (.dic [])) (upd H p (.dK [])) := Step.newM hp
    exact q _ _ _ _ (h p (rp.free hp)) s2 (rp.put s2 ⟨[], upd_same, .nil⟩) (.obj p)

/-! ### what may be read as a list, a tuple, an instance -/
inductive LsE (μ : M) : Dv → List Dv → Prop where
  | lst (xs : List Dv) : LsE μ (.lst xs) xs
  | obj {a : Addr} {xs : List Dv} (h : μ a = some (.lst xs)) : LsE μ (.obj a) xs
theorem LsE.rep {d : Dv} {xs : List Dv} {H : Hp} {u : V} (l : LsE μ d xs) (r : Rep K μ H) (q : DRep K μ H u d) : ∃ a vs, u = .ref a ∧ H a = some (.lst vs) ∧ DReps K μ H vs xs := by
  cases l with
  | lst xs => cases q with | lst h n r => exact ⟨_, _, rfl, h, r⟩
  | obj h => cases q with | obj a => obtain ⟨vs, e, rr⟩ := r _ _ h; exact ⟨_, _, rfl, e, rr⟩
inductive SqD (μ : M) : Dv → List Dv → Prop where
  | lst (xs : List Dv) : SqD μ (.lst xs) xs
  | fro (xs : List Dv) : SqD μ (.fro xs) xs
  | obj {a : Addr} {xs : List Dv} (h : μ a = some (.lst xs)) : SqD μ (.obj a) xs
theorem SqD.rep {d : Dv} {xs : List Dv} {H : Hp} {u : V} (l : SqD μ d xs) (r : Rep K μ H) (q : DRep K μ H u d) : ∃ a vs, u = .ref a ∧ SqL K H a vs ∧ DReps K μ H vs xs := by
  cases l with
  | lst xs => cases q with | lst h n r => exact ⟨_, _, rfl, SqL.of h, r⟩
  | fro xs =>
    cases q with
    | fro h n r => exact ⟨_, _, rfl, .inl h, r⟩
    | frk h r => exact ⟨_, _, rfl, .inr h, r⟩
  | obj h => cases q with | obj a => obtain ⟨vs, e, rr⟩ := r _ _ h; exact ⟨_, _, rfl, SqL.of e, rr⟩
theorem tup_rep {xs : List Dv} {H : Hp} {u : V} (q : DRep K μ H u (.tup xs)) : ∃ a vs, u = .ref a ∧ H a = some (.tup vs) ∧ DReps K μ H vs xs := by
  cases q with | tup h n r => exact ⟨_, _, rfl, h, r⟩
/-- an instance, mutable or data -/
inductive InsD (μ : M) : Dv → Addr → List (Str × Dv) → Prop where
  | ins (C : Addr) (fs : List (Str × Dv)) : InsD μ (.ins C fs) C fs
  | obj {a C : Addr} {fs : List (Str × Dv)} (h : μ a = some (.ins C fs)) : InsD μ (.obj a) C fs
theorem InsD.rep {d : Dv} {C : Addr} {fs : List (Str × Dv)} {H : Hp} {u : V} (l : InsD μ d C fs) (r : Rep K μ H) (q : DRep K μ H u d) : ∃ a dx vs, u = .ref a ∧ H a = some (.ins C dx vs) ∧ DFlds K μ H vs fs := by
  cases l with
  | ins C fs => cases q with | ins h n r => exact ⟨_, _, _, rfl, h, r⟩
  | obj h => cases q with | obj a => obtain ⟨dx, vs, e, rr⟩ := r _ _ h; exact ⟨_, _, _, rfl, e, rr⟩
theorem je_fld {f : Str} (h : JE X W KE e n μ fun d μ1 => ∃ C fs v, InsD μ1 d C fs ∧ Cls X.K C ∧ NoAttr X.K C f ∧ fs.lookup f = some v ∧ k v μ1)
    (hb : attributeBase e f X.env (eval e X.env) = eval e X.env := by rfl) : JE X W KE (.Attribute e f pos) n μ k :=
  je_of (pe_fld peC hb) fun σ H Q ev rp t q => by
    refine h σ H _ ev rp t fun u x H1 μ1 h1 s1 r1 d1 => ?_
    obtain ⟨C, fs, v, i, c, na, l, h2⟩ := h1
    obtain ⟨a, dx, vs, rfl, ha, fr⟩ := i.rep r1 d1
    obtain ⟨w, l1, l2⟩ := fr.get l
    exact ⟨a, C, dx, vs, w, rfl, ha, c, na, l1, tl_pure (q.step s1) h2 r1 l2⟩
end
end DL

/-! ## Operators, subscripts, calls -/
namespace DL
open PySem PySem.Spec L2
section
variable {X : Cx} {W : WX} {KE : XD} {e a b c : Expr} {es rest : List Expr} {n : En} {μ : M} {k : DK} {pos p : Pos} {x : Str} {K : Kf} {kl : Nat}

/-! ### operators on data -/
def rAddA (K : Kf) : R2 := fun x y H Q => rI0 (fun i j => V.int (i + j)) x y H Q ∨ (∃ i j, x = V.str i ∧ y = V.str j ∧ i.length + j.length ≤ sizeLine ∧ Q (.str (i ++ j)) H) ∨ rCat x y H Q ∨ rCatA K x y H Q
theorem op_addA : OpR X (binaryOp .Add) (rAddA X.K) := OpR.or op_add (OpR.or op_add_str (OpR.or op_cat op_catA))
theorem je_add (h : JE X W KE a n μ fun x μ1 => JE X W KE b n μ1 fun y μ2 => DOp X.K (rAddA X.K) x y μ2 k) : JE X W KE (.BinOp a .Add b pos) n μ k := je_bin op_addA h
theorem d_addI {i j : Int} (h : k (.int (i + j)) μ) : DOp K (rAddA K) (.int i) (.int j) μ k := fun u v H Q r du dv t => by
  cases du; cases dv
  exact .inl ⟨i, j, rfl, rfl, tl_pure t h r (.int _)⟩
theorem d_addS {i j : Str} (hz : i.length + j.length ≤ sizeLine) (h : k (.str (i ++ j)) μ) : DOp K (rAddA K) (.str i) (.str j) μ k := fun u v H Q r du dv t => by
  cases du; cases dv
  exact .inr (.inl ⟨i, j, rfl, rfl, hz, tl_pure t h r (.str _)⟩)
theorem d_addL {x y : Dv} {xs ys : List Dv} (l1 : LsE μ x xs) (l2 : LsE μ y ys) (hz : xs.length + ys.length ≤ sizeLine) (h : k (.lst (xs ++ ys)) μ) : DOp K (rAddA K) x y μ k := fun u v H Q r du dv t => by
  obtain ⟨a, vs, rfl, ha, ra⟩ := l1.rep r du
  obtain ⟨b, ws, rfl, hb, rb⟩ := l2.rep r dv
  exact .inr (.inr (.inl ⟨a, b, vs, ws, rfl, rfl, ha, hb, by rw [ra.length, rb.length]; exact hz, fun p hp => tl_new t h r hp (.lst upd_same (r.free hp) ((ra.append rb).step (Step.new hp)))⟩))
theorem d_addT {xs ys : List Dv} (hz : xs.length + ys.length ≤ sizeLine) (h : k (.tup (xs ++ ys)) μ) : DOp K (rAddA K) (.tup xs) (.tup ys) μ k := fun u v H Q r du dv t => by
  have du' := du
  have dv' := dv
  obtain ⟨a, vs, rfl, ha, ra⟩ := tup_rep du
  obtain ⟨b, ws, rfl, hb, rb⟩ := tup_rep dv
  refine .inr (.inr (.inr ⟨a, b, vs, ws, rfl, rfl, SqT.of ha, SqT.of hb, by rw [ra.length, rb.length]; exact hz, fun e => ?_, fun _ e => ?_, fun _ _ p hp => ?_⟩))
  · subst e
    cases ra
    exact tl_pure t h r dv'
  · subst e
    cases rb
    rw [List.append_nil] at h
    exact tl_pure t h r du'
  · exact tl_new t h r hp (.tup upd_same (r.free hp) ((ra.append rb).step (Step.new hp)))
theorem je_sub (h : JE X W KE a n μ fun x μ1 => JE X W KE b n μ1 fun y μ2 => DOp X.K (rI0 fun i j => V.int (i - j)) x y μ2 k) : JE X W KE (.BinOp a .Sub b pos) n μ k := je_bin op_sub h
theorem d_I0 {g : Int → Int → V} {z : Dv} {i j : Int} (hz : ∀ H, DRep K μ H (g i j) z) (h : k z μ) : DOp K (rI0 g) (.int i) (.int j) μ k := fun u v H Q r du dv t => by
  cases du; cases dv
  exact ⟨i, j, rfl, rfl, tl_pure t h r (hz H)⟩
theorem d_I {g : Int → Int → V} {C : Int → Int → Prop} {z : Dv} {i j : Int} (hc : C i j) (hz : ∀ H, DRep K μ H (g i j) z) (h : k z μ) : DOp K (rI C g) (.int i) (.int j) μ k := fun u v H Q r du dv t => by
  cases du; cases dv
  exact ⟨i, j, rfl, rfl, hc, tl_pure t h r (hz H)⟩
theorem d_subI {i j : Int} (h : k (.int (i - j)) μ) : DOp K (rI0 fun i j => V.int (i - j)) (.int i) (.int j) μ k := d_I0 (fun _ => .int _) h
def rMulA : R2 := fun x y H Q => rI CMul (fun i j => V.int (i * j)) x y H Q ∨ rRep x y H Q
theorem op_mulA : OpR X (binaryOp .Mult) rMulA := OpR.or op_mul op_rep
theorem je_mul (h : JE X W KE a n μ fun x μ1 => JE X W KE b n μ1 fun y μ2 => DOp X.K rMulA x y μ2 k) : JE X W KE (.BinOp a .Mult b pos) n μ k := je_bin op_mulA h
theorem d_mulI {i j : Int} (hc : CMul i j) (h : k (.int (i * j)) μ) : DOp K rMulA (.int i) (.int j) μ k := fun u v H Q r du dv t => .inl (d_I hc (fun _ => .int _) h u v H Q r du dv t)
theorem replicate_flatten_one {α : Type} (v : α) (j : Nat) : (List.replicate j [v]).flatten = List.replicate j v := by
  induction j with
  | zero => rfl
  | succ j ih => rw [List.replicate_succ, List.replicate_succ, List.flatten_cons, ih]; rfl
/-- [d] * j -/
theorem d_mulL1 {x d : Dv} {j : Int} (l1 : LsE μ x [d]) (hj : -(2 ^ 63) ≤ j ∧ j ≤ 16777216) (h : k (.lst (List.replicate j.toNat d)) μ) : DOp K rMulA x (.int j) μ k := fun u v H Q r du dv t => by
  obtain ⟨a, vs, rfl, ha, ra⟩ := l1.rep r du
  cases dv
  cases ra with
  | cons h1 t1 =>
    cases t1
    refine .inr ⟨a, j, _, rfl, rfl, ha, hj.1, by omega, by show 1 * j.toNat ≤ sizeLine; rw [sizeLine_eq]; omega, fun p hp => tl_new t h r hp (.lst upd_same (r.free hp) ?_)⟩
    rw [replicate_flatten_one]
    exact (DReps.replicate h1 _).step (Step.new hp)
theorem je_fdiv (h : JE X W KE a n μ fun x μ1 => JE X W KE b n μ1 fun y μ2 => DOp X.K (rI CDiv fun i j => V.int (i / j)) x y μ2 k) : JE X W KE (.BinOp a .FloorDiv b pos) n μ k := je_bin op_fdiv h
theorem d_fdivI {i j : Int} (hc : CDiv i j) (h : k (.int (i / j)) μ) : DOp K (rI CDiv fun i j => V.int (i / j)) (.int i) (.int j) μ k := d_I hc (fun _ => .int _) h
theorem je_mod (h : JE X W KE a n μ fun x μ1 => JE X W KE b n μ1 fun y μ2 => DOp X.K (rI (fun _ j => 0 < j) fun i j => V.int (i % j)) x y μ2 k) : JE X W KE (.BinOp a .Mod b pos) n μ k := je_bin op_mod h
theorem d_modI {i j : Int} (hc : 0 < j) (h : k (.int (i % j)) μ) : DOp K (rI (fun _ j => 0 < j) fun i j => V.int (i % j)) (.int i) (.int j) μ k := d_I (C := fun _ j => 0 < j) hc (fun _ => .int _) h
theorem je_pow (h : JE X W KE a n μ fun x μ1 => JE X W KE b n μ1 fun y μ2 => DOp X.K (rI CPow fun i j => V.int (i ^ j.toNat)) x y μ2 k) : JE X W KE (.BinOp a .Pow b pos) n μ k := je_bin op_pow h
theorem d_powI {i j : Int} (hc : CPow i j) (h : k (.int (i ^ j.toNat)) μ) : DOp K (rI CPow fun i j => V.int (i ^ j.toNat)) (.int i) (.int j) μ k := d_I hc (fun _ => .int _) h
theorem je_neg (h : JE X W KE a n μ fun x μ1 => DUn X.K (rU fun i => V.int (-i)) x μ1 k) : JE X W KE (.UnaryOp .USub a pos) n μ k := je_un un_neg h
theorem d_negI {i : Int} (h : k (.int (-i)) μ) : DUn K (rU fun i => V.int (-i)) (.int i) μ k := fun u H Q r du t => by
  cases du
  exact ⟨i, rfl, tl_pure t h r (.int _)⟩

/-! ### comparisons -/
theorem je_lt (h : JE X W KE a n μ fun x μ1 => JE X W KE b n μ1 fun y μ2 => DOp X.K (rI0 fun i j => V.bl (decide (i < j))) x y μ2 k) : JE X W KE (.Compare a [.Lt] [b] pos) n μ k := je_cmp op_lt (nomark _) h
theorem je_le (h : JE X W KE a n μ fun x μ1 => JE X W KE b n μ1 fun y μ2 => DOp X.K (rI0 fun i j => V.bl (decide (i ≤ j))) x y μ2 k) : JE X W KE (.Compare a [.LtE] [b] pos) n μ k := je_cmp op_le (nomark _) h
theorem je_gt (h : JE X W KE a n μ fun x μ1 => JE X W KE b n μ1 fun y μ2 => DOp X.K (rI0 fun i j => V.bl (decide (j < i))) x y μ2 k) : JE X W KE (.Compare a [.Gt] [b] pos) n μ k := je_cmp op_gt (nomark _) h
theorem je_ge (h : JE X W KE a n μ fun x μ1 => JE X W KE b n μ1 fun y μ2 => DOp X.K (rI0 fun i j => V.bl (decide (j ≤ i))) x y μ2 k) : JE X W KE (.Compare a [.GtE] [b] pos) n μ k := je_cmp op_ge (nomark _) h
theorem d_cmpI {g : Int → Int → Bool} {i j : Int} (h : k (.bl (g i j)) μ) : DOp K (rI0 fun i j => V.bl (g i j)) (.int i) (.int j) μ k := d_I0 (fun _ => .bl _) h
/-- flat things that == compares at once -/
inductive ScD : Dv → V → Prop where
  | non : ScD .non .non
  | bl (b : Bool) : ScD (.bl b) (.bl b)
  | int (i : Int) : ScD (.int i) (.int i)
  | str (x : Str) : ScD (.str x) (.str x)
theorem ScD.eq {d : Dv} {u v : V} {H : Hp} (s : ScD d v) (r : DRep K μ H u d) : u = v := by cases s <;> cases r <;> rfl
mutual
def toPy : Dv → Option PyData
  | .non => some .none
  | .bl b => some (.bool b)
  | .int i => some (.int i)
  | .str x => some (.str x)
  | .tup xs => (toPys xs).map .tuple
  | .lst xs => (toPys xs).map .list
  | .fro xs => (toPys xs).map .list
  | _ => none
def toPys : List Dv → Option (List PyData)
  | [] => some []
  | x :: r => match toPy x, toPys r with
    | some y, some ys => some (y :: ys)
    | _, _ => none
end
mutual
theorem DRep.dp {H : Hp} : ∀ {v : V} {d : Dv} {q : PyData}, DRep K μ H v d → toPy d = some q → Dp K H v q
  | _, _, q, .non, e => by unfold toPy at e; cases e; exact .non
  | _, _, q, .bl b, e => by unfold toPy at e; cases e; exact .bl b
  | _, _, q, .int b, e => by unfold toPy at e; cases e; exact .int b
  | _, _, q, .str b, e => by unfold toPy at e; cases e; exact .str b
  | _, _, q, .ty b, e => by unfold toPy at e; cases e
  | _, _, q, .obj b, e => by unfold toPy at e; cases e
  | _, _, q, .tup (ds := ds) h n r, e => by
    unfold toPy at e
    cases z : toPys ds with
    | none => rw [z] at e; cases e
    | some qs => rw [z] at e; cases e; exact .tup (SqT.of h) (r.dps z)
  | _, _, q, .lst (ds := ds) h n r, e => by
    unfold toPy at e
    cases z : toPys ds with
    | none => rw [z] at e; cases e
    | some qs => rw [z] at e; cases e; exact .lst (SqL.of h) (r.dps z)
  | _, _, q, .fro (ds := ds) h n r, e => by
    unfold toPy at e
    cases z : toPys ds with
    | none => rw [z] at e; cases e
    | some qs => rw [z] at e; cases e; exact .lst (.inl h) (r.dps z)
  | _, _, q, .frk (ds := ds) h r, e => by
    unfold toPy at e
    cases z : toPys ds with
    | none => rw [z] at e; cases e
    | some qs => rw [z] at e; cases e; exact .lst (.inr h) (r.dps z)
  | _, _, q, .ins h n r, e => by unfold toPy at e; cases e
  | _, _, q, .exc0 h n, e => by unfold toPy at e; cases e
  | _, _, q, .exc1 h n h2 n2 r, e => by unfold toPy at e; cases e
theorem DReps.dps {H : Hp} : ∀ {v : List V} {d : List Dv} {q : List PyData}, DReps K μ H v d → toPys d = some q → DpAll K H v q
  | _, _, q, .nil, e => by unfold toPys at e; cases e; exact .nil
  | _, _, q, .cons (d := d) (ds := ds) h t, e => by
    unfold toPys at e
    cases z1 : toPy d with
    | none => rw [z1] at e; cases e
    | some y =>
      cases z2 : toPys ds with
      | none => rw [z1, z2] at e; cases e
      | some ys =>
        rw [z1, z2] at e
        cases e
        exact .cons (h.dp z1) (t.dps z2)
end
def rEqA (K : Kf) : R2 := fun x y H Q => rEq x y H Q ∨ rEqD K x y H Q
def rNeA (K : Kf) : R2 := fun x y H Q => rNe x y H Q ∨ rNeD K x y H Q
theorem je_eq (c : Cok kl X W) (h : JE X W KE a n μ fun x μ1 => JE X W KE b n μ1 fun y μ2 => DOp X.K (rEqA X.K) x y μ2 k) : JE X W KE (.Compare a [.Eq] [b] pos) n μ k := je_cmp (OpR.or op_eq (op_eqD c.room.units)) (nomark _) h
theorem je_ne (c : Cok kl X W) (h : JE X W KE a n μ fun x μ1 => JE X W KE b n μ1 fun y μ2 => DOp X.K (rNeA X.K) x y μ2 k) : JE X W KE (.Compare a [.NotEq] [b] pos) n μ k := je_cmp (OpR.or op_ne (op_neD c.room.units)) (nomark _) h
theorem d_eqSc {x y : Dv} {u v : V} (hx : ScD x u) (hy : ScD y v) (hs : scal u v = true) (h : k (.bl (decide (u = v))) μ) : DOp K (rEqA K) x y μ k := fun u' v' H Q r du dv t => by
  rw [hx.eq du, hy.eq dv]
  exact .inl ⟨hs, tl_pure t h r (.bl _)⟩
theorem d_neSc {x y : Dv} {u v : V} (hx : ScD x u) (hy : ScD y v) (hs : scal u v = true) (h : k (.bl (!decide (u = v))) μ) : DOp K (rNeA K) x y μ k := fun u' v' H Q r du dv t => by
  rw [hx.eq du, hy.eq dv]
  exact .inl ⟨hs, tl_pure t h r (.bl _)⟩
theorem decI {i j : Int} : decide (V.int i = V.int j) = decide (i = j) := decide_eq_decide.mpr ⟨V.int.inj, congrArg _⟩
theorem decS {i j : Str} : decide (V.str i = V.str j) = decide (i = j) := decide_eq_decide.mpr ⟨V.str.inj, congrArg _⟩
theorem decB {i j : Bool} : decide (V.bl i = V.bl j) = decide (i = j) := decide_eq_decide.mpr ⟨V.bl.inj, congrArg _⟩
theorem d_eqI {i j : Int} (h : k (.bl (decide (i = j))) μ) : DOp K (rEqA K) (.int i) (.int j) μ k := d_eqSc (.int i) (.int j) rfl (by rw [decI]; exact h)
theorem d_neI {i j : Int} (h : k (.bl (!decide (i = j))) μ) : DOp K (rNeA K) (.int i) (.int j) μ k := d_neSc (.int i) (.int j) rfl (by rw [decI]; exact h)
theorem d_eqS {i j : Str} (h : k (.bl (decide (i = j))) μ) : DOp K (rEqA K) (.str i) (.str j) μ k := d_eqSc (.str i) (.str j) rfl (by rw [decS]; exact h)
theorem d_neS {i j : Str} (h : k (.bl (!decide (i = j))) μ) : DOp K (rNeA K) (.str i) (.str j) μ k := d_neSc (.str i) (.str j) rfl (by rw [decS]; exact h)
theorem d_eqB {i j : Bool} (h : k (.bl (decide (i = j))) μ) : DOp K (rEqA K) (.bl i) (.bl j) μ k := d_eqSc (.bl i) (.bl j) rfl (by rw [decB]; exact h)
theorem d_neB {i j : Bool} (h : k (.bl (!decide (i = j))) μ) : DOp K (rNeA K) (.bl i) (.bl j) μ k := d_neSc (.bl i) (.bl j) rfl (by rw [decB]; exact h)
theorem d_eqNI {j : Int} (h : k (.bl false) μ) : DOp K (rEqA K) .non (.int j) μ k := d_eqSc .non (.int j) rfl h
theorem d_neNI {j : Int} (h : k (.bl true) μ) : DOp K (rNeA K) .non (.int j) μ k := d_neSc .non (.int j) rfl h
theorem d_eqD {x y : Dv} {p q : PyData} (hx : toPy x = some p) (hy : toPy y = some q) (sp : SeqAt.shaped p = true) (sq : SeqAt.shaped q = true) (h : k (.bl (PyData.eqv p q)) μ) : DOp K (rEqA K) x y μ k := fun u v H Q r du dv t =>
  .inr ⟨p, q, du.dp hx, dv.dp hy, sp, sq, tl_pure t h r (.bl _)⟩
theorem d_neD {x y : Dv} {p q : PyData} (hx : toPy x = some p) (hy : toPy y = some q) (sp : SeqAt.shaped p = true) (sq : SeqAt.shaped q = true) (h : k (.bl (!PyData.eqv p q)) μ) : DOp K (rNeA K) x y μ k := fun u v H Q r du dv t =>
  .inr ⟨p, q, du.dp hx, dv.dp hy, sp, sq, tl_pure t h r (.bl _)⟩
/-- a mutable list read as data, for == -/
theorem DRep.thaw {H : Hp} {v : V} {a : Addr} {xs : List Dv} {qs : List PyData} (r : Rep K μ H) (d : DRep K μ H v (.obj a)) (h : μ a = some (.lst xs)) (e : toPys xs = some qs) : Dp K H v (.list qs) := by
  cases d
  obtain ⟨vs, e1, r1⟩ := r _ _ h
  exact .lst (SqL.of e1) (r1.dps e)
theorem d_eqDO {x : Dv} {a : Addr} {xs : List Dv} {p : PyData} {qs : List PyData} (hx : toPy x = some p) (ha : μ a = some (.lst xs)) (hy : toPys xs = some qs) (sp : SeqAt.shaped p = true) (sq : SeqAt.shaped (.list qs) = true) (h : k (.bl (PyData.eqv p (.list qs))) μ) : DOp K (rEqA K) x (.obj a) μ k := fun u v H Q r du dv t =>
  .inr ⟨p, _, du.dp hx, dv.thaw r ha hy, sp, sq, tl_pure t h r (.bl _)⟩
theorem d_neDO {x : Dv} {a : Addr} {xs : List Dv} {p : PyData} {qs : List PyData} (hx : toPy x = some p) (ha : μ a = some (.lst xs)) (hy : toPys xs = some qs) (sp : SeqAt.shaped p = true) (sq : SeqAt.shaped (.list qs) = true) (h : k (.bl (!PyData.eqv p (.list qs))) μ) : DOp K (rNeA K) x (.obj a) μ k := fun u v H Q r du dv t =>
  .inr ⟨p, _, du.dp hx, dv.thaw r ha hy, sp, sq, tl_pure t h r (.bl _)⟩
def isNonD : Dv → Bool
  | .non => true
  | _ => false
theorem isNonD_dec {d : Dv} {u : V} {H : Hp} (r : DRep K μ H u d) : decide (u = V.non) = isNonD d := by cases r <;> rfl
theorem je_is (h : JE X W KE a n μ fun x μ1 => JE X W KE b n μ1 fun y μ2 => DOp X.K (fun x y H Q => y = .non ∧ Q (.bl (decide (x = .non))) H) x y μ2 k) (hm : behindInMarks .Is b = false := by exact nomark _) : JE X W KE (.Compare a [.Is] [b] pos) n μ k := je_cmp op_isN hm h
theorem je_isnot (h : JE X W KE a n μ fun x μ1 => JE X W KE b n μ1 fun y μ2 => DOp X.K (fun x y H Q => y = .non ∧ Q (.bl (!decide (x = .non))) H) x y μ2 k) (hm : behindInMarks .IsNot b = false := by exact nomark _) : JE X W KE (.Compare a [.IsNot] [b] pos) n μ k := je_cmp op_notN hm h
theorem d_isN {x : Dv} (h : k (.bl (isNonD x)) μ) : DOp K (fun x y H Q => y = .non ∧ Q (.bl (decide (x = .non))) H) x .non μ k := fun u v H Q r du dv t => by
  cases dv
  exact ⟨rfl, by rw [isNonD_dec du]; exact tl_pure t h r (.bl _)⟩
theorem d_isnotN {x : Dv} (h : k (.bl (!isNonD x)) μ) : DOp K (fun x y H Q => y = .non ∧ Q (.bl (!decide (x = .non))) H) x .non μ k := fun u v H Q r du dv t => by
  cases dv
  exact ⟨rfl, by rw [isNonD_dec du]; exact tl_pure t h r (.bl _)⟩

/-! ### subscripts -/
theorem DReps.atI {H : Hp} {vs : List V} {ds : List Dv} {i : Int} {d : Dv} (r : DReps K μ H vs ds) (h : L2.atI ds i = some d) : ∃ v, L2.atI vs i = some v ∧ DRep K μ H v d := by
  unfold L2.atI at h ⊢
  rw [r.length]
  cases e : ixN ds.length i with
  | none => rw [e] at h; cases h
  | some j =>
    rw [e] at h
    exact r.get h
theorem je_ix (h : JE X W KE a n μ fun x μ1 => JE X W KE b n μ1 fun y μ2 => DOp X.K (rIx X.K) x y μ2 k) (hs : PlainIx b := by exact fun _ _ => rfl) : JE X W KE (.Subscript a b pos) n μ k :=
  je_of (pe_ix ix_seq peC peC hs) fun σ H Q ev rp t q => by
    refine h σ H _ ev rp t fun u x H1 μ1 h1 s1 r1 d1 => ?_
    refine h1 σ H1 _ (ev.step s1) r1 (t.step s1) fun v y H2 μ2 h2 s2 r2 d2 => ?_
    exact h2 u v H2 Q r2 (d1.step s2) d2 (q.step (s1.trans s2))
theorem d_ixL {x : Dv} {xs : List Dv} {i : Int} {d : Dv} (l : SqD μ x xs) (hi : L2.atI xs i = some d) (h : k d μ) : DOp K (rIx K) x (.int i) μ k := fun u v H Q r du dv t => by
  obtain ⟨a, vs, rfl, ha, ra⟩ := l.rep r du
  cases dv
  obtain ⟨w, e, rw⟩ := ra.atI hi
  exact .inl ⟨a, vs, i, w, rfl, rfl, ha, e, tl_pure t h r rw⟩
theorem d_ixT {xs : List Dv} {i : Int} {d : Dv} (hi : L2.atI xs i = some d) (h : k d μ) : DOp K (rIx K) (.tup xs) (.int i) μ k := fun u v H Q r du dv t => by
  obtain ⟨a, vs, rfl, ha, ra⟩ := tup_rep du
  cases dv
  obtain ⟨w, e, rw⟩ := ra.atI hi
  exact .inr (.inl ⟨a, vs, i, w, rfl, rfl, SqT.of ha, e, tl_pure t h r rw⟩)
/-- a[lo:hi] of a list -/
def JO (X : Cx) (W : WX) (KE : XD) (o : Option Expr) (n : En) (μ : M) (k : Option Int → M → Prop) : Prop := match o with
  | none => k none μ
  | some e => JE X W KE e n μ fun d μ1 => ∃ i, d = .int i ∧ k (some i) μ1
def cO (X : Cx) : Option Expr → TO
  | none => tNoPart
  | some e => tPart (cE X e)
theorem poC {o : Option Expr} : PO X o (cO X o) := by
  cases o with
  | none => exact po_none
  | some e => exact po_some peC
theorem JO.run {o : Option Expr} {ko : Option Int → M → Prop} (h : JO X W KE o n μ ko) {σ : L2.St} {H : Hp} {Q : Option Int → Hp → Prop} (ev : Env X.K μ H σ n) (rp : Rep X.K μ H) (t : Thr X.K W KE μ H)
    (q : ∀ i H' μ', ko i μ' → Step μ H μ' H' → Rep X.K μ' H' → Q i H') : cO X o σ H Q := by
  cases o with
  | none => exact q _ _ μ h (Step.refl _ _) rp
  | some e =>
    refine h σ H _ ev rp t fun u x H1 μ1 h1 s1 r1 d1 => ?_
    obtain ⟨i, rfl, h2⟩ := h1
    cases d1
    exact ⟨i, rfl, q _ _ μ1 h2 s1 r1⟩
def cutD (xs : List Dv) (lo hi : Option Int) : List Dv := (xs.drop (HT.sIx xs.length 0 lo)).take (HT.sIx xs.length xs.length hi - HT.sIx xs.length 0 lo)
theorem DReps.cut {H : Hp} {vs : List V} {ds : List Dv} (r : DReps K μ H vs ds) (lo hi : Option Int) : DReps K μ H (cutV vs lo hi) (cutD ds lo hi) := by
  unfold cutV cutD
  rw [r.length]
  exact (r.drop _).take _
theorem je_slice {lo hi : Option Expr} {p2 : Pos} (h : JE X W KE a n μ fun x μ1 => JO X W KE lo n μ1 fun i μ2 => JO X W KE hi n μ2 fun j μ3 => ∃ xs, SqD μ3 x xs ∧ k (.lst (cutD xs i j)) μ3) : JE X W KE (.Subscript a (.Slice lo hi none p2) pos) n μ k :=
  je_of (pe_slice sl_list peC poC poC) fun σ H Q ev rp t q => by
    refine h σ H _ ev rp t fun u x H1 μ1 h1 s1 r1 d1 => ?_
    refine h1.run (ev.step s1) r1 (t.step s1) fun i H2 μ2 h2 s2 r2 => ?_
    have s12 := s1.trans s2
    refine h2.run (ev.step s12) r2 (t.step s12) fun j H3 μ3 h3 s3 r3 => ?_
    obtain ⟨xs, l, hk⟩ := h3
    obtain ⟨a, vs, rfl, ha, ra⟩ := l.rep r3 (d1.step (s2.trans s3))
    refine ⟨a, vs, rfl, ha, fun p hp => ?_⟩
    exact tl_new (q.step (s12.trans s3)) hk r3 hp (.lst upd_same (r3.free hp) ((ra.cut i j).step (Step.new hp)))
end
end DL

/-! ## Calls, statements, loops, comprehensions, defs -/
namespace DL
open PySem PySem.Spec L2

/-- a def's promise over data: the arguments, the store, what is wanted of the answer, of an exception -/
abbrev XF := Value → List (Str × Dv) → M → Prop
abbrev DSp := List Dv → M → DK → XF → Prop
def toSp (K : Kf) (S : DSp) : Sp := fun vs H Q E => ∃ ds μ kd ke, DReps K μ H vs ds ∧ Rep K μ H ∧ S ds μ kd ke ∧ Tl K μ H kd Q ∧ ∀ cls fs d H' μ', ke cls fs μ' → Step μ H μ' H' → Rep K μ' H' → XRep K μ' H' d fs → E cls d H'
inductive CRels : List Dv → List V → Prop where
  | nil : CRels [] []
  | cons {d : Dv} {v : V} {ds : List Dv} {vs : List V} (h : CRel d v) (t : CRels ds vs) : CRels (d :: ds) (v :: vs)
theorem CRels.rep {K : Kf} {μ : M} {H : Hp} : ∀ {ds : List Dv} {vs : List V}, CRels ds vs → DReps K μ H vs ds
  | _, _, .nil => .nil
  | _, _, .cons h t => .cons h.rep t.rep
/-- what stands at f keeps the promise S (dvs: the defaults that fill up) -/
structure DFn (P : Program) (w : World) (K : Kf) (mg : Str → Option Value) (base : Heap) (k : Nat) (f : Addr) (S : DSp) (dvs : List Dv) : Prop where
  ex : ∃ (fd : FuncData) (ps : List Str) (ds : List Value) (vs : List V), FnOk P w K mg base (L2.CX P w) k f fd ps (toSp K S) ∧ Binds K fd ps ds ∧ Vals vs ds ∧ CRels dvs vs
structure DCal (P : Program) (w : World) (K : Kf) (mg : Str → Option Value) (base : Heap) (k : Nat) (x : Str) (S : DSp) (dvs : List Dv) : Prop where
  ex : ∃ f : Addr, DFn P w K mg base k f S dvs ∧ mg x = some (.ref f) ∧ PySem.W.keepIn K (.ref f) = true
structure DMet (P : Program) (w : World) (K : Kf) (mg : Str → Option Value) (base : Heap) (k : Nat) (C : Addr) (m : Str) (S : DSp) (dvs : List Dv) : Prop where
  ex : ∃ f : Addr, DFn P w K mg base k f S dvs ∧ Cls K C ∧ Meth K C m f
structure DMak (P : Program) (w : World) (K : Kf) (mg : Str → Option Value) (base : Heap) (k : Nat) (x : Str) (C : Addr) (S : DSp) (dvs : List Dv) : Prop where
  ex : ∃ f : Addr, DFn P w K mg base k f S dvs ∧ Mk K C f ∧ mg x = some (.ref C)
section
variable {X : Cx} {W : WX} {KE : XD} {e a b c o : Expr} {es rest : List Expr} {n : En} {μ : M} {k : DK} {pos p apos : Pos} {x m : Str} {K : Kf} {kl j : Nat} {S : DSp} {dvs : List Dv}
theorem DFn.mono {P : Program} {w : World} {mg : Str → Option Value} {base : Heap} {f : Addr} (h : DFn P w K mg base j f S dvs) (l : j ≤ kl) : DFn P w K mg base kl f S dvs := by
  obtain ⟨fd, ps, ds, vs, F, r⟩ := h.ex
  exact ⟨fd, ps, ds, vs, F.mono l, r⟩
/-- the callee runs, data in, data out -/
theorem run_data {f : Addr} {args : List Dv} {σ : L2.St} {H : Hp} {Q : VK} {vs : List V} {us : List Value} {pins : List (Addr × Obj)} {s : Shared} (c : Cok kl X W) (F : DFn X.prog X.w X.K X.mg X.base j f S dvs) (hj : j ≤ kl) (ev : Env X.K μ H σ n) (rp : Rep X.K μ H) (t : Thr X.K W KE μ H) (q : Tl X.K μ H k Q)
    (d : DReps X.K μ H vs args) (I : Inv X pins σ H s) (r : Vals vs us) (h : S (args ++ dvs) μ k (fun cls fs μ' => KE cls fs n μ')) : wpAny (model X.prog X.w) X.A (call (.ref f) us) (EP X pins σ Q) X.xe s := by
  obtain ⟨fd, ps, ds, dv, F, hb, hd, hc⟩ := F.ex
  refine run_fnSD (F.mono hj) c.room hb hd (passAt c.tk σ) I r ⟨args ++ dvs, μ, k, _, d.append hc.rep, rp, h, q, fun cls fs d' H' μ' h1 s1 r1 x1 => ?_⟩
  exact t cls fs d' σ n H' μ' h1 (ev.step s1) s1 r1 x1
theorem je_call (c : Cok kl X W) (F : DCal X.prog X.w X.K X.mg X.base j x S dvs) (hj : j ≤ kl) (h : JA X W KE (e :: es) n μ fun args μ1 => S (args ++ dvs) μ1 k (fun cls fs μ' => KE cls fs n μ')) (hg : Gl X x := by rfl)
    (hdb : (x == ("__debug__" : Str)) = false := by decide) (he : starEach (e :: es) X.env = (false, eval e X.env) :: starEach es X.env := by rfl) (hpl : (backTo pos (starEach es X.env)).any (·.1) = false := by rfl) :
    JE X W KE (.Call (.Name x p) (e :: es) [] pos) n μ k := fun σ H Q ev rp t q pins s I => by
  obtain ⟨f, F, hm, hk⟩ := F.ex
  refine wpAny_Call_Name_kw (ld_glob I hg hm ?_ hdb)
  refine PySem.W.callWith_K (h₀ := X.base) I.ok.mod.kin hk (thn (h σ H _ ev rp t (fun us xs H1 μ1 h1 s1 r1 d1 => show (fun vs H1 => ∃ args μ1, S (args ++ dvs) μ1 k (fun cls fs μ' => KE cls fs n μ') ∧ Step μ H μ1 H1 ∧ Rep X.K μ1 H1 ∧ DReps X.K μ1 H1 vs args) us H1 from ⟨xs, μ1, h1, s1, r1, d1⟩) pos pins s I) fun us s1 ⟨vs, H1, I1, r, args, μ1, h1, s1, r1, d1⟩ => ⟨I1.kIn, ?_⟩) he hpl
  exact run_data c F hj (ev.step s1) r1 (t.step s1) (q.step s1) d1 I1 r h1
theorem je_call0 (c : Cok kl X W) (F : DCal X.prog X.w X.K X.mg X.base j x S dvs) (hj : j ≤ kl) (h : S dvs μ k (fun cls fs μ' => KE cls fs n μ')) (hg : Gl X x := by rfl) (hdb : (x == ("__debug__" : Str)) = false := by decide) :
    JE X W KE (.Call (.Name x p) [] [] pos) n μ k := fun σ H Q ev rp t q pins s I => by
  obtain ⟨f, F, hm, hk⟩ := F.ex
  refine wpAny_Call_Name_kw (ld_glob I hg hm ?_ hdb)
  exact PySem.W.callWith_K0 I.kIn hk (run_data (us := []) (args := []) c F hj ev rp t q .nil I .nil h)
theorem je_meth {pl : Sem Bool} (c : Cok kl X W) (h : JE X W KE o n μ fun d μ1 => ∃ C fs S dvs j, InsD μ1 d C fs ∧ fs.lookup m = none ∧ DMet X.prog X.w X.K X.mg X.base j C m S dvs ∧ j ≤ kl ∧ JA X W KE (e :: es) n μ1 fun args μ2 => S (d :: (args ++ dvs)) μ2 k (fun cls fs μ' => KE cls fs n μ'))
    (hst : starEach (e :: es) X.env = (false, eval e X.env) :: starEach es X.env := by rfl) (hpl : (backTo pos (starEach es X.env)).any (·.1) = false := by rfl)
    (ht : eval (.Call (.Attribute o m apos) (e :: es) [] pos) X.env = (do
      let ov ← eval o X.env
      standAt apos.atName
      let (f, first) ← holding [ov] (getMethod ov m pl)
      callWith pos f first (backTo pos (starEach (e :: es) X.env)) (backToKw pos (keywordEach [] X.env))) := by rfl) :
    JE X W KE (.Call (.Attribute o m apos) (e :: es) [] pos) n μ k := fun σ H Q ev rp t q pins s I => by
  refine PySem.W.methodCall_KW (pl := pl) (thn (h σ H (fun v H1 => ∃ d μ1, (∃ C fs S dvs j, InsD μ1 d C fs ∧ fs.lookup m = none ∧ DMet X.prog X.w X.K X.mg X.base j C m S dvs ∧ j ≤ kl ∧ JA X W KE (e :: es) n μ1 fun args μ2 => S (d :: (args ++ dvs)) μ2 k (fun cls fs μ' => KE cls fs n μ')) ∧ Step μ H μ1 H1 ∧ Rep X.K μ1 H1 ∧ DRep X.K μ1 H1 v d) ev rp t (fun v d H1 μ1 h1 s1 r1 d1 => ⟨d, μ1, h1, s1, r1, d1⟩) pins s I) fun u s1 ⟨v, H1, I1, rx, d, μ1, ⟨C, fs, S, dvs, j, i1, l1, F, hj, h1⟩, st1, r1, d1⟩ => ?_) ht
  obtain ⟨a, dx, vf, rfl, ea, fr⟩ := i1.rep r1 d1
  obtain rfl : u = Value.ref a := rx
  obtain ⟨f, F, cl, hm⟩ := F.ex
  refine getmeth_ok I1 ea cl hm (fr.none l1) ?_
  refine PySem.W.callWith_K (first := [.ref a]) (h₀ := X.base) I.ok.mod.kin hm.kp (thn (h1 σ H1 (fun vs H2 => ∃ args μ2, S (d :: (args ++ dvs)) μ2 k (fun cls fs μ' => KE cls fs n μ') ∧ Step μ1 H1 μ2 H2 ∧ Rep X.K μ2 H2 ∧ DReps X.K μ2 H2 vs args) (ev.step st1) r1 (t.step st1) (fun us xs H2 μ2 h2 s2 r2 d2 => ⟨xs, μ2, h2, s2, r2, d2⟩) pos pins s1 I1) fun us s2 ⟨vs, H2, I2, r, args, μ2, h2, st2, r2, d2⟩ => ⟨I2.kIn, ?_⟩) hst hpl
  have s12 := st1.trans st2
  exact run_data (us := .ref a :: us) (vs := .ref a :: vs) (args := d :: args) c F hj (ev.step s12) r2 (t.step s12) (q.step s12) (.cons (d1.step st2) d2) I2 (.cons rfl r) h2
theorem je_meth0 {pl : Sem Bool} (c : Cok kl X W) (h : JE X W KE o n μ fun d μ1 => ∃ C fs S dvs j, InsD μ1 d C fs ∧ fs.lookup m = none ∧ DMet X.prog X.w X.K X.mg X.base j C m S dvs ∧ j ≤ kl ∧ S (d :: dvs) μ1 k (fun cls fs μ' => KE cls fs n μ'))
    (ht : eval (.Call (.Attribute o m apos) [] [] pos) X.env = (do
      let ov ← eval o X.env
      standAt apos.atName
      let (f, first) ← holding [ov] (getMethod ov m pl)
      callWith pos f first (backTo pos (starEach [] X.env)) (backToKw pos (keywordEach [] X.env))) := by rfl) :
    JE X W KE (.Call (.Attribute o m apos) [] [] pos) n μ k := fun σ H Q ev rp t q pins s I => by
  refine PySem.W.methodCall_KW (pl := pl) (thn (h σ H (fun v H1 => ∃ d μ1, (∃ C fs S dvs j, InsD μ1 d C fs ∧ fs.lookup m = none ∧ DMet X.prog X.w X.K X.mg X.base j C m S dvs ∧ j ≤ kl ∧ S (d :: dvs) μ1 k (fun cls fs μ' => KE cls fs n μ')) ∧ Step μ H μ1 H1 ∧ Rep X.K μ1 H1 ∧ DRep X.K μ1 H1 v d) ev rp t (fun v d H1 μ1 h1 s1 r1 d1 => ⟨d, μ1, h1, s1, r1, d1⟩) pins s I) fun u s1 ⟨v, H1, I1, rx, d, μ1, ⟨C, fs, S, dvs, j, i1, l1, F, hj, h1⟩, st1, r1, d1⟩ => ?_) ht
  obtain ⟨a, dx, vf, rfl, ea, fr⟩ := i1.rep r1 d1
  obtain rfl : u = Value.ref a := rx
  obtain ⟨f, F, cl, hm⟩ := F.ex
  refine getmeth_ok I1 ea cl hm (fr.none l1) ?_
  exact PySem.W.callWith_K0 (first := [.ref a]) I1.kIn hm.kp (run_data (us := [.ref a]) (vs := [.ref a]) (args := [d]) c F hj (ev.step st1) r1 (t.step st1) (q.step st1) (.one d1) I1 (.cons rfl .nil) h1)
/-- the new object as it is from now on: mutable, or data -/
def MkEnd (μ : M) (a : Addr) (k : DK) : Prop := k (.obj a) μ ∨ ∃ C fs, μ a = some (.ins C fs) ∧ k (.ins C fs) (delM μ a)
theorem run_makeSD {CX : CXT} {k : Nat} {f C : Addr} {fd : FuncData} {ps : List Str} {sp : Sp} {dv : List V} {ds : List Value} {E : XK} {pins : List (Addr × Obj)} {σ : L2.St} {H : Hp} {s : Shared} {Q : VK} {us : List Value} {vs : List V} (M : Mk X.K C f) (F : FnOk X.prog X.w X.K X.mg X.base CX k f fd ps sp) (hr : Room (k + 1) X.A) (hb : Binds X.K fd ps ds) (hd : Vals dv ds)
    (hx : PassesAt CX X σ E) (I : Inv X pins σ H s) (r : Vals vs us)
    (h : ∀ x dx, H x = none → H dx = none → dx ≠ x → sp (.ref x :: (vs ++ dv)) (upd (upd H dx (.own x)) x (.ins C dx [])) (fun v H2 => v = .non ∧ Q (.ref x) H2) E) :
    wpAny (model X.prog X.w) X.A (call (.ref C) us) (EP X pins σ Q) X.xe s := by
  have hq := h (s.heap.objs.size + 1) s.heap.objs.size (I.hok.fresh (Nat.le_succ _)) (I.hok.fresh (Nat.le_refl _)) (Nat.ne_of_lt (Nat.lt_succ_self _))
  have I2 := Inv.made (C := C) I
  have r2 : Vals (V.ref (s.heap.objs.size + 1) :: (vs ++ dv)) (Value.ref (s.heap.objs.size + 1) :: (us ++ ds)) := .cons rfl (r.append hd)
  have hl : (Value.ref (s.heap.objs.size + 1) :: us ++ ds).length = ps.length := by
    have e := r2.length
    rw [F.len _ _ _ _ hq] at e
    exact e.symm
  refine wpAny_call (make_map (f := f) I.kIn M.makes M.init (beq_iff_eq.mp M.fn) (codeAny_mono (F.run _ X.stack _ _ ⟨Value.ref (s.heap.objs.size + 1) :: us, []⟩ (Value.ref (s.heap.objs.size + 1) :: (us ++ ds)) _ _ E (hr.make C us [])
    (I2.env0.make C us []) (hb _ (Value.ref (s.heap.objs.size + 1) :: us) I2.kIn hl) r2 hq) fun r s' hq' => ?_))
  cases r with
  | error e => exact hx pins _ _ e s' I2 hq'
  | ok fl =>
    cases fl with
    | ret u =>
      obtain ⟨v, H', I3, rv, ev, q3⟩ := I2.after hq'
      subst ev
      exact ⟨rv, ⟨V.ref (s.heap.objs.size + 1), H', I3, rfl, q3⟩⟩
    | next => exact False.elim hq'
    | brk => exact False.elim hq'
    | cont => exact False.elim hq'
theorem run_make_data {C : Addr} {args : List Dv} {σ : L2.St} {H : Hp} {Q : VK} {vs : List V} {us : List Value} {pins : List (Addr × Obj)} {s : Shared} {f : Addr} (c : Cok kl X W) (M : Mk X.K C f) (F : DFn X.prog X.w X.K X.mg X.base j f S dvs) (hj : j + 1 ≤ kl) (ev : Env X.K μ H σ n) (rp : Rep X.K μ H) (t : Thr X.K W KE μ H) (q : Tl X.K μ H k Q)
    (d : DReps X.K μ H vs args) (I : Inv X pins σ H s) (r : Vals vs us) (h : ∀ a, μ a = none → S (.obj a :: (args ++ dvs)) (updM μ a (.ins C [])) (fun r μ2 => r = .non ∧ MkEnd μ2 a k) (fun cls fs μ' => KE cls fs n μ')) :
    wpAny (model X.prog X.w) X.A (call (.ref C) us) (EP X pins σ Q) X.xe s := by
  obtain ⟨fd, ps, ds, dv, F, hb, hd, hc⟩ := F.ex
  refine run_makeSD M F (c.room.mono hj) hb hd (passAt c.tk σ) I r fun x dx nx nd ne => ?_
  have sA : Step μ H μ (upd H dx (.own x)) := Step.new nd
  have nx1 : upd H dx (.own x) x = none := by rw [upd_ne ne.symm]; exact nx
  have sB : Step μ (upd H dx (.own x)) (updM μ x (.ins C [])) (upd (upd H dx (.own x)) x (.ins C dx [])) := Step.newM nx1
  have sAB := sA.trans sB
  have r2 : Rep X.K (updM μ x (.ins C [])) (upd (upd H dx (.own x)) x (.ins C dx [])) := (rp.new nd).put sB ⟨dx, [], upd_same, .nil⟩
  refine ⟨.obj x :: (args ++ dvs), _, _, _, .cons (.obj x) ((d.step sAB).append hc.rep), r2, h x (rp.free nx), fun v d' H' μ' hk s1 r1 d1 => ?_, fun cls fs d' H' μ' h1 s1 r1 x1 => ?_⟩
  · obtain ⟨rfl, hk⟩ := hk
    cases d1
    refine ⟨rfl, ?_⟩
    rcases hk with hk | ⟨C', fs, ha, hk⟩
    · exact q _ _ _ _ hk (sAB.trans s1) r1 (.obj x)
    · obtain ⟨dx', vf, e, fr⟩ := r1 _ _ ha
      exact q _ _ _ _ hk ((sAB.trans s1).trans (Step.freeze ha)) (r1.freeze ha) (.ins e delM_same (fr.step (Step.freeze ha)))
  · exact t cls fs d' σ n H' μ' h1 (ev.step (sAB.trans s1)) (sAB.trans s1) r1 x1
theorem je_make {C : Addr} (c : Cok kl X W) (F : DMak X.prog X.w X.K X.mg X.base j x C S dvs) (hj : j + 1 ≤ kl) (h : JA X W KE (e :: es) n μ fun args μ1 => ∀ a, μ1 a = none → S (.obj a :: (args ++ dvs)) (updM μ1 a (.ins C [])) (fun r μ2 => r = .non ∧ MkEnd μ2 a k) (fun cls fs μ' => KE cls fs n μ')) (hg : Gl X x := by rfl)
    (hdb : (x == ("__debug__" : Str)) = false := by decide) (he : starEach (e :: es) X.env = (false, eval e X.env) :: starEach es X.env := by rfl) (hpl : (backTo pos (starEach es X.env)).any (·.1) = false := by rfl) :
    JE X W KE (.Call (.Name x p) (e :: es) [] pos) n μ k := fun σ H Q ev rp t q pins s I => by
  obtain ⟨f, F, M, hm⟩ := F.ex
  refine wpAny_Call_Name_kw (ld_glob I hg hm ?_ hdb)
  refine PySem.W.callWith_K (h₀ := X.base) I.ok.mod.kin M.kp (thn (h σ H (fun vs H1 => ∃ args μ1, (∀ a, μ1 a = none → S (.obj a :: (args ++ dvs)) (updM μ1 a (.ins C [])) (fun r μ2 => r = .non ∧ MkEnd μ2 a k) (fun cls fs μ' => KE cls fs n μ')) ∧ Step μ H μ1 H1 ∧ Rep X.K μ1 H1 ∧ DReps X.K μ1 H1 vs args) ev rp t (fun us xs H1 μ1 h1 s1 r1 d1 => ⟨xs, μ1, h1, s1, r1, d1⟩) pos pins s I) fun us s1 ⟨vs, H1, I1, r, args, μ1, h1, s1, r1, d1⟩ => ⟨I1.kIn, ?_⟩) he hpl
  exact run_make_data c M F hj (ev.step s1) r1 (t.step s1) (q.step s1) d1 I1 r h1
theorem je_make0 {C : Addr} (c : Cok kl X W) (F : DMak X.prog X.w X.K X.mg X.base j x C S dvs) (hj : j + 1 ≤ kl) (h : ∀ a, μ a = none → S (.obj a :: dvs) (updM μ a (.ins C [])) (fun r μ2 => r = .non ∧ MkEnd μ2 a k) (fun cls fs μ' => KE cls fs n μ')) (hg : Gl X x := by rfl) (hdb : (x == ("__debug__" : Str)) = false := by decide) :
    JE X W KE (.Call (.Name x p) [] [] pos) n μ k := fun σ H Q ev rp t q pins s I => by
  obtain ⟨f, F, M, hm⟩ := F.ex
  refine wpAny_Call_Name_kw (ld_glob I hg hm ?_ hdb)
  exact PySem.W.callWith_K0 I.kIn M.kp (run_make_data (us := []) (args := []) c M F hj ev rp t q .nil I .nil h)

/-! ### built-in functions -/
theorem je_cB {id : String} {r : List V → Hp → VK → Prop} (hc : CallR X (.builtin id) r) (hm : X.mg x = none) (hv : bootBuiltins x = some (.builtin id)) (h : JA X W KE (e :: es) n μ fun xs μ1 => DCl X.K r xs μ1 k) (hg : Gl X x := by rfl) (hn : x ≠ "__name__" := by decide)
    (hdb : (x == ("__debug__" : Str)) = false := by decide) (he : starEach (e :: es) X.env = (false, eval e X.env) :: starEach es X.env := by rfl) (hpl : (backTo pos (starEach es X.env)).any (·.1) = false := by rfl) : JE X W KE (.Call (.Name x p) (e :: es) [] pos) n μ k :=
  je_of (pe_callB hc hg hm hv paC hn hdb he hpl) fun σ H Q ev rp t q => by
    refine h σ H _ ev rp t fun us xs H1 μ1 h1 s1 r1 d1 => ?_
    exact h1 us H1 Q r1 d1 (q.step s1)
theorem je_cT {T : String} {r : List V → Hp → VK → Prop} (hc : CallR X (.type T) r) (hm : X.mg x = none) (hv : bootBuiltins x = some (.type T)) (h : JA X W KE (e :: es) n μ fun xs μ1 => DCl X.K r xs μ1 k) (hg : Gl X x := by rfl) (hn : x ≠ "__name__" := by decide)
    (hdb : (x == ("__debug__" : Str)) = false := by decide) (he : starEach (e :: es) X.env = (false, eval e X.env) :: starEach es X.env := by rfl) (hpl : (backTo pos (starEach es X.env)).any (·.1) = false := by rfl) : JE X W KE (.Call (.Name x p) (e :: es) [] pos) n μ k :=
  je_of (pe_callTy hc hg hm hv paC hn hdb he hpl) fun σ H Q ev rp t q => by
    refine h σ H _ ev rp t fun us xs H1 μ1 h1 s1 r1 d1 => ?_
    exact h1 us H1 Q r1 d1 (q.step s1)
def rLenA (K : Kf) : List V → Hp → VK → Prop := fun xs H Q => (∃ p ys, xs = [.ref p] ∧ (SqL K H p ys ∨ SqT K H p ys) ∧ Q (.int ys.length) H) ∨ ∃ z, xs = [.str z] ∧ z.length ≤ sizeLine ∧ Q (.int z.length) H
theorem call_lenA : CallR X (.builtin "len") (rLenA X.K) := CallR.or call_len_seq call_len_str
theorem d_lenL {x : Dv} {xs : List Dv} (l : SqD μ x xs) (h : k (.int xs.length) μ) : DCl K (rLenA K) [x] μ k := fun us H Q r d t => by
  cases d with
  | cons d0 d1 =>
    cases d1
    obtain ⟨a, vs, rfl, ha, ra⟩ := l.rep r d0
    exact .inl ⟨a, vs, rfl, .inl ha, tl_pure t h r (by rw [ra.length]; exact .int _)⟩
theorem d_lenT {xs : List Dv} (h : k (.int xs.length) μ) : DCl K (rLenA K) [.tup xs] μ k := fun us H Q r d t => by
  cases d with
  | cons d0 d1 =>
    cases d1
    obtain ⟨a, vs, rfl, ha, ra⟩ := tup_rep d0
    exact .inl ⟨a, vs, rfl, .inr (SqT.of ha), tl_pure t h r (by rw [ra.length]; exact .int _)⟩
theorem d_lenS {z : Str} (hz : z.length ≤ sizeLine) (h : k (.int z.length) μ) : DCl K (rLenA K) [.str z] μ k := fun us H Q r d t => by
  cases d with
  | cons d0 d1 =>
    cases d1; cases d0
    exact .inr ⟨z, rfl, hz, tl_pure t h r (.int _)⟩
theorem d_max2 {i j : Int} (h : k (.int (max i j)) μ) : DCl K (fun xs H Q => ∃ i j, xs = [V.int i, .int j] ∧ Q (.int (if j > i then j else i)) H) [.int i, .int j] μ k := fun us H Q r d t => by
  cases d with
  | cons d0 d1 =>
    cases d1 with
    | cons d1 d2 =>
      cases d2; cases d0; cases d1
      have e : (if j > i then j else i) = max i j := by omega
      exact ⟨i, j, rfl, by rw [e]; exact tl_pure t h r (.int _)⟩
theorem d_min2 {i j : Int} (h : k (.int (min i j)) μ) : DCl K (fun xs H Q => ∃ i j, xs = [V.int i, .int j] ∧ Q (.int (if j < i then j else i)) H) [.int i, .int j] μ k := fun us H Q r d t => by
  cases d with
  | cons d0 d1 =>
    cases d1 with
    | cons d1 d2 =>
      cases d2; cases d0; cases d1
      have e : (if j < i then j else i) = min i j := by omega
      exact ⟨i, j, rfl, by rw [e]; exact tl_pure t h r (.int _)⟩
theorem d_sum {x : Dv} {ns : List Int} (l : SqD μ x (ns.map Dv.int)) (h : k (.int ns.sum) μ) : DCl K (rSum K) [x] μ k := fun us H Q r d t => by
  cases d with
  | cons d0 d1 =>
    cases d1
    obtain ⟨a, vs, rfl, ha, ra⟩ := l.rep r d0
    have e := ra.ints
    subst e
    exact ⟨a, ns, rfl, ha, tl_pure t h r (.int _)⟩
theorem d_maxL {x : Dv} {ns : List Int} (l : SqD μ x (ns.map Dv.int)) (hn : 0 < ns.length) (h : ∀ m, m ∈ ns → (∀ y ∈ ns, y ≤ m) → k (.int m) μ) : DCl K (rMax K) [x] μ k := fun us H Q r d t => by
  cases d with
  | cons d0 d1 =>
    cases d1
    obtain ⟨a, vs, rfl, ha, ra⟩ := l.rep r d0
    have e := ra.ints
    subst e
    exact ⟨a, ns, rfl, ha, hn, fun m h1 h2 => tl_pure t (h m h1 h2) r (.int _)⟩
theorem d_minL {x : Dv} {ns : List Int} (l : SqD μ x (ns.map Dv.int)) (hn : 0 < ns.length) (h : ∀ m, m ∈ ns → (∀ y ∈ ns, m ≤ y) → k (.int m) μ) : DCl K (rMin K) [x] μ k := fun us H Q r d t => by
  cases d with
  | cons d0 d1 =>
    cases d1
    obtain ⟨a, vs, rfl, ha, ra⟩ := l.rep r d0
    have e := ra.ints
    subst e
    exact ⟨a, ns, rfl, ha, hn, fun m h1 h2 => tl_pure t (h m h1 h2) r (.int _)⟩
theorem d_all {x : Dv} {bs : List Bool} (l : SqD μ x (bs.map Dv.bl)) (h : k (.bl (bs.all id)) μ) : DCl K (rAll K) [x] μ k := fun us H Q r d t => by
  cases d with
  | cons d0 d1 =>
    cases d1
    obtain ⟨a, vs, rfl, ha, ra⟩ := l.rep r d0
    have e := ra.bls
    subst e
    exact ⟨a, bs, rfl, ha, tl_pure t h r (.bl _)⟩
theorem d_listOf {x : Dv} {xs : List Dv} (l : SqD μ x xs) (h : k (.lst xs) μ) : DCl K (fun ys H Q => ∃ p zs, ys = [V.ref p] ∧ (SqL K H p zs ∨ SqT K H p zs) ∧ ∀ l, H l = none → Q (.ref l) (upd H l (.lst zs))) [x] μ k := fun us H Q r d t => by
  cases d with
  | cons d0 d1 =>
    cases d1
    obtain ⟨a, vs, rfl, ha, ra⟩ := l.rep r d0
    exact ⟨a, vs, rfl, .inl ha, fun p hp => tl_new t h r hp (.lst upd_same (r.free hp) (ra.step (Step.new hp)))⟩
theorem d_listOfT {xs : List Dv} (h : k (.lst xs) μ) : DCl K (fun ys H Q => ∃ p zs, ys = [V.ref p] ∧ (SqL K H p zs ∨ SqT K H p zs) ∧ ∀ l, H l = none → Q (.ref l) (upd H l (.lst zs))) [.tup xs] μ k := fun us H Q r d t => by
  cases d with
  | cons d0 d1 =>
    cases d1
    obtain ⟨a, vs, rfl, ha, ra⟩ := tup_rep d0
    exact ⟨a, vs, rfl, .inr (SqT.of ha), fun p hp => tl_new t h r hp (.lst upd_same (r.free hp) (ra.step (Step.new hp)))⟩
/-- int(..) of an int, a bool -/
theorem d_intI {i : Int} (h : k (.int i) μ) : DCl K (fun xs H Q => (∃ i, xs = [V.int i] ∧ Q (.int i) H) ∨ ∃ k, xs = [.bl k] ∧ Q (.int (if k then 1 else 0)) H) [.int i] μ k := fun us H Q r d t => by
  cases d with
  | cons d0 d1 =>
    cases d1; cases d0
    exact .inl ⟨i, rfl, tl_pure t h r (.int _)⟩
theorem d_intB {i : Bool} (h : k (.int (if i then 1 else 0)) μ) : DCl K (fun xs H Q => (∃ i, xs = [V.int i] ∧ Q (.int i) H) ∨ ∃ k, xs = [.bl k] ∧ Q (.int (if k then 1 else 0)) H) [.bl i] μ k := fun us H Q r d t => by
  cases d with
  | cons d0 d1 =>
    cases d1; cases d0
    exact .inr ⟨i, rfl, tl_pure t h r (.int _)⟩
/-- isinstance -/
inductive TyD (K : Kf) (μ : M) : Dv → Value → Prop where
  | non : TyD K μ .non (.type "NoneType")
  | bl (b : Bool) : TyD K μ (.bl b) (.type "bool")
  | int (i : Int) : TyD K μ (.int i) (.type "int")
  | str (x : Str) : TyD K μ (.str x) (.type "str")
  | lst (xs : List Dv) : TyD K μ (.lst xs) (.type "list")
  | tup (xs : List Dv) : TyD K μ (.tup xs) (.type "tuple")
  | lstM {a : Addr} {xs : List Dv} (h : μ a = some (.lst xs)) : TyD K μ (.obj a) (.type "list")
  | dicM {a : Addr} {xs : List (Key × Dv)} (h : μ a = some (.dic xs)) : TyD K μ (.obj a) (.type "dict")
  | ins {d : Dv} {C : Addr} {fs : List (Str × Dv)} (i : InsD μ d C fs) (cl : Cls K C) (ha : PySem.W.findIn K (.ref C) "__class__" = some (some (.builtin "object.__class__")))
      (hn : PySem.W.specialIn K (.builtin "object.__class__") "__get__" = some (some (.builtin "getset_descriptor.__get__"))) (htk : PySem.W.takesIn K (.builtin "object.__class__") = some true)
      (hm : PySem.W.mroIn K C (.type "object") = some true) : TyD K μ d (.ref C)
theorem TyD.rep {x : Dv} {t : Value} {H : Hp} {u : V} (h : TyD K μ x t) (r : Rep K μ H) (d : DRep K μ H u x) : TyX K H u t := by
  cases h with
  | non => cases d; exact .base .non
  | bl b => cases d; exact .base (.bl b)
  | int b => cases d; exact .base (.int b)
  | str b => cases d; exact .base (.str b)
  | lst xs => cases d with | lst h n r => exact .base (.lst h)
  | tup xs => cases d with | tup h n r => exact .base (.tup h)
  | lstM h => cases d; obtain ⟨vs, e, _⟩ := r _ _ h; exact .base (.lst e)
  | dicM h => cases d; obtain ⟨vs, e, _⟩ := r _ _ h; exact .base (.dK e)
  | ins i cl ha hn htk hm =>
    obtain ⟨a, dx, vs, rfl, e, _⟩ := i.rep r d
    exact .base (.ins e cl ha hn htk hm)
/-- a class as data -/
inductive ClD : Dv → Value → Prop where
  | ty (n : String) : ClD (.ty n) (.type n)
  | own (C : Addr) : ClD (.obj C) (.ref C)
theorem ClD.rep {c : Dv} {u : Value} {v : V} {H : Hp} (h : ClD c u) (d : DRep K μ H v c) : ClsV v u := by
  cases h with
  | ty n => cases d; exact .ty n
  | own C => cases d; exact .own C
inductive ClDs : List Dv → List Value → Prop where
  | nil : ClDs [] []
  | cons {c : Dv} {u : Value} {cs : List Dv} {us : List Value} (h : ClD c u) (t : ClDs cs us) : ClDs (c :: cs) (u :: us)
theorem ClDs.rep {H : Hp} : ∀ {cs : List Dv} {us : List Value} {vs : List V}, ClDs cs us → DReps K μ H vs cs → Paired ClsV vs us
  | _, _, _, .nil, .nil => .nil
  | _, _, _, .cons h t, .cons d r => .cons (h.rep d) (t.rep r)
def rIsiA (K : Kf) : List V → Hp → VK → Prop := fun xs H Q => rIsi K xs H Q ∨ rIsiT K xs H Q
theorem call_isiA : CallR X (.builtin "isinstance") (rIsiA X.K) := CallR.or call_isi call_isiT
theorem d_isi {x c : Dv} {t u : Value} {b : Bool} (hx : TyD K μ x t) (hc : ClD c u) (hb : PySem.W.kitOne K t u = some b) (h : k (.bl b) μ) : DCl K (rIsiA K) [x, c] μ k := fun us H Q r d q => by
  cases d with
  | cons d0 d1 =>
    cases d1 with
    | cons d1 d2 =>
      cases d2
      exact .inl ⟨_, _, t, u, b, rfl, hc.rep d1, hx.rep r d0, hb, tl_pure q h r (.bl _)⟩
theorem d_isiT {x : Dv} {cs : List Dv} {t : Value} {us : List Value} {b : Bool} (hx : TyD K μ x t) (hc : ClDs cs us) (hb : PySem.W.kitAny K t us = some b) (h : k (.bl b) μ) : DCl K (rIsiA K) [x, .tup cs] μ k := fun vs H Q r d q => by
  cases d with
  | cons d0 d1 =>
    cases d1 with
    | cons d1 d2 =>
      cases d2
      obtain ⟨a, ws, rfl, ha, ra⟩ := tup_rep d1
      exact .inr ⟨_, a, ws, t, us, b, rfl, ha, hc.rep ra, hx.rep r d0, hb, tl_pure q h r (.bl _)⟩
/-- xs.append(e), xs a mutable list -/
theorem je_append (h : JE X W KE o n μ fun d μ1 => ∃ a, d = .obj a ∧ (∃ xs, μ1 a = some (.lst xs)) ∧ JE X W KE e n μ1 fun y μ2 => ∃ xs, μ2 a = some (.lst xs) ∧ xs.length < sizeLine ∧ k .non (updM μ2 a (.lst (xs ++ [y]))))
    (hs : starEach [e] X.env = (false, eval e X.env) :: starEach [] X.env := by rfl)
    (ht : PE X (.Call (.Attribute o "append" apos) [e] [] pos) (tBM X.K "list" rAppend (cE X o) (cA X [e])) := by exact pe_bm PySem.F.plainAttrs_list PySem.F.slot_list_append PySem.F.type_list_append mt_append peC paC) :
    JE X W KE (.Call (.Attribute o "append" apos) [e] [] pos) n μ k :=
  je_of ht fun σ H Q ev rp t q => by
    refine h σ H _ ev rp t fun u x H1 μ1 h1 s1 r1 d1 => ?_
    obtain ⟨a, rfl, ⟨xs0, hx0⟩, h1⟩ := h1
    cases d1
    obtain ⟨vs0, e0, _⟩ := r1 _ _ hx0
    refine ⟨.inl ⟨rfl, _, SqL.of e0⟩, ?_⟩
    have h1' : JA X W KE [e] n μ1 fun ys μ2 => ∃ y, ys = [y] ∧ ∃ xs, μ2 a = some (.lst xs) ∧ xs.length < sizeLine ∧ k .non (updM μ2 a (.lst (xs ++ [y]))) := ja_one (h1.mono fun y μ2 z => ⟨y, rfl, z⟩) hs
    refine h1' σ H1 _ (ev.step s1) r1 (t.step s1) fun us ys H2 μ2 h2 s2 r2 d2 => ?_
    obtain ⟨y, rfl, xs, hx, hl, hk⟩ := h2
    cases d2 with
    | cons dy dn =>
      rename_i w _
      cases dn
      obtain ⟨vs, e2, rx⟩ := r2 _ _ hx
      have s3 := Step.mut (H := H2) (o := .lst (vs ++ [w])) (u := .lst (xs ++ [y])) hx
      exact ⟨a, vs, w, rfl, rfl, e2, by rw [rx.length]; exact hl, q _ _ _ _ hk ((s1.trans s2).trans s3) (r2.put s3 ⟨_, upd_same, (rx.step s3).append (.one (dy.step s3))⟩) .non⟩
end
end DL

/-! ## Statements, loops, comprehensions, defs -/
namespace DL
open PySem PySem.Spec L2

/-- what is wanted behind a statement, over data -/
structure Ed where
  nx : En → M → Prop
  rt : DK
  bk : En → M → Prop := fun _ _ => False
  ct : En → M → Prop := fun _ _ => False
structure TlS (K : Kf) (μ : M) (H : Hp) (P : Ed) (D : Ends) : Prop where
  nx : ∀ σ' e' H' μ', P.nx e' μ' → Env K μ' H' σ' e' → Step μ H μ' H' → Rep K μ' H' → D.nx σ' H'
  rt : Tl K μ H P.rt D.rt
  bk : ∀ σ' e' H' μ', P.bk e' μ' → Env K μ' H' σ' e' → Step μ H μ' H' → Rep K μ' H' → D.bk σ' H'
  ct : ∀ σ' e' H' μ', P.ct e' μ' → Env K μ' H' σ' e' → Step μ H μ' H' → Rep K μ' H' → D.ct σ' H'
theorem TlS.step {K : Kf} {μ μ1 : M} {H H1 : Hp} {P : Ed} {D : Ends} (s : Step μ H μ1 H1) (t : TlS K μ H P D) : TlS K μ1 H1 P D :=
  ⟨fun σ' e' H' μ' a b c => t.nx σ' e' H' μ' a b (s.trans c), t.rt.step s, fun σ' e' H' μ' a b c => t.bk σ' e' H' μ' a b (s.trans c), fun σ' e' H' μ' a b c => t.ct σ' e' H' μ' a b (s.trans c)⟩
section
variable (X : Cx) (W : WX) (KE : XD)
def JS (st : Stmt) (n : En) (μ : M) (P : Ed) : Prop := ∀ (σ : L2.St) (H : Hp) (D : Ends), Env X.K μ H σ n → Rep X.K μ H → Thr X.K W KE μ H → TlS X.K μ H P D → cS X st D σ H
def JB (st : List Stmt) (n : En) (μ : M) (P : Ed) : Prop := ∀ (σ : L2.St) (H : Hp) (D : Ends), Env X.K μ H σ n → Rep X.K μ H → Thr X.K W KE μ H → TlS X.K μ H P D → cB X st D σ H
end
section
variable {X : Cx} {W : WX} {KE : XD} {e a b c o : Expr} {es rest : List Expr} {st : Stmt} {sts A B : List Stmt} {n : En} {μ : M} {k : DK} {P : Ed} {pos pos' p apos : Pos} {x m f : Str} {K : Kf} {kl j i : Nat}
theorem js_of {t : TS} (h : PS X st t) (q : ∀ (σ : L2.St) (H : Hp) (D : Ends), Env X.K μ H σ n → Rep X.K μ H → Thr X.K W KE μ H → TlS X.K μ H P D → t D σ H) : JS X W KE st n μ P := fun σ H D a b c d pins s I => h.run pins s σ H D I (q σ H D a b c d)
theorem jb_of {t : TS} (h : PSs X sts t) (q : ∀ (σ : L2.St) (H : Hp) (D : Ends), Env X.K μ H σ n → Rep X.K μ H → Thr X.K W KE μ H → TlS X.K μ H P D → t D σ H) : JB X W KE sts n μ P := fun σ H D a b c d pins s I => h.run pins s σ H D I (q σ H D a b c d)
theorem tls_now {σ : L2.St} {H : Hp} {D : Ends} (t : TlS X.K μ H P D) (h : P.nx n μ) (ev : Env X.K μ H σ n) (r : Rep X.K μ H) : D.nx σ H := t.nx σ n H μ h ev (Step.refl _ _) r
theorem jb_nil (h : P.nx n μ) : JB X W KE [] n μ P := jb_of pss_nil fun σ H D ev rp t q => tls_now q h ev rp
theorem jb_cons (h : JS X W KE st n μ { P with nx := fun n' μ' => JB X W KE sts n' μ' P }) (ht : True := trivial) : JB X W KE (st :: sts) n μ P :=
  jb_of (pss_cons psC pbC) fun σ H D ev rp t q => by
    refine h σ H { D with nx := cB X sts D } ev rp t ⟨fun σ' e' H' μ' h1 ev1 s1 r1 => ?_, q.rt, q.bk, q.ct⟩
    exact h1 σ' H' D ev1 r1 (t.step s1) (q.step s1)
theorem jb_one (h : JS X W KE st n μ P) : JB X W KE [st] n μ P := jb_of (pss_one psC) fun σ H D ev rp t q => h σ H D ev rp t q
theorem JB.le {n' : En} (h : JB X W KE sts n' μ P) (l : LeE n n') : JB X W KE sts n μ P := fun σ H D ev rp t q => h σ H D (ev.le l) rp t q
theorem JS.mono {P' : Ed} (h : JS X W KE st n μ P) (h1 : ∀ a b, P.nx a b → P'.nx a b) (h2 : ∀ a b, P.rt a b → P'.rt a b) (h3 : ∀ a b, P.bk a b → P'.bk a b) (h4 : ∀ a b, P.ct a b → P'.ct a b) : JS X W KE st n μ P' := fun σ H D ev rp t q =>
  h σ H D ev rp t ⟨fun _ _ _ _ z => q.nx _ _ _ _ (h1 _ _ z), fun _ _ _ _ z => q.rt _ _ _ _ (h2 _ _ z), fun _ _ _ _ z => q.bk _ _ _ _ (h3 _ _ z), fun _ _ _ _ z => q.ct _ _ _ _ (h4 _ _ z)⟩
theorem JB.mono {P' : Ed} (h : JB X W KE sts n μ P) (h1 : ∀ a b, P.nx a b → P'.nx a b) (h2 : ∀ a b, P.rt a b → P'.rt a b) (h3 : ∀ a b, P.bk a b → P'.bk a b) (h4 : ∀ a b, P.ct a b → P'.ct a b) : JB X W KE sts n μ P' := fun σ H D ev rp t q =>
  h σ H D ev rp t ⟨fun _ _ _ _ z => q.nx _ _ _ _ (h1 _ _ z), fun _ _ _ _ z => q.rt _ _ _ _ (h2 _ _ z), fun _ _ _ _ z => q.bk _ _ _ _ (h3 _ _ z), fun _ _ _ _ z => q.ct _ _ _ _ (h4 _ _ z)⟩
theorem js_pass (h : P.nx n μ) : JS X W KE (.Pass pos) n μ P := js_of ps_pass fun σ H D ev rp t q => tls_now q h ev rp
theorem js_break (h : P.bk n μ) : JS X W KE (.Break pos) n μ P := js_of ps_break fun σ H D ev rp t q => q.bk σ n H μ h ev (Step.refl _ _) rp
theorem js_continue (h : P.ct n μ) : JS X W KE (.Continue pos) n μ P := js_of ps_continue fun σ H D ev rp t q => q.ct σ n H μ h ev (Step.refl _ _) rp
theorem js_set (i : Nat) (c : Cok kl X W) (hi : X.N[i]? = some x) (h : JE X W KE e n μ fun d μ' => P.nx (n.set i (some d)) μ') (hx : Loc X.env.scope x := by first | exact Or.inl rfl | exact Or.inr rfl)
    (hs : swapsWith e (some (.Name x pos')) pos.line X.env = pure false := by rfl) (hf : X.fn x = true ∨ X.env.scope.names.lookup x = some .local := by first | exact .inl rfl | exact .inr rfl) : JS X W KE (.Assign [.Name x pos'] e pos) n μ P :=
  js_of (ps_set c.nd hi hx peC hs hf) fun σ H D ev rp t q => by
    refine h σ H _ ev rp t fun v d H1 μ1 h1 s1 r1 d1 => ?_
    exact q.nx _ _ _ _ h1 ((ev.step s1).set d1 i) s1 r1
theorem js_expr (h : JE X W KE e n μ fun _ μ' => P.nx n μ') (hs : swapsWith e none pos.line X.env = pure false := by rfl) : JS X W KE (.Expr e pos) n μ P :=
  js_of (ps_expr peC hs) fun σ H D ev rp t q => by
    refine h σ H _ ev rp t fun v d H1 μ1 h1 s1 r1 d1 => ?_
    exact q.nx _ _ _ _ h1 (ev.step s1) s1 r1
theorem js_ret (h : JE X W KE e n μ P.rt) : JS X W KE (.Return (some e) pos) n μ P := js_of (ps_ret peC) fun σ H D ev rp t q => h σ H _ ev rp t q.rt
theorem js_retN (h : P.rt .non μ) : JS X W KE (.Return none pos) n μ P := js_of ps_retN fun σ H D ev rp t q => tl_pure q.rt h rp .non
theorem js_if (h : JT X W KE c n μ fun b μ' => (b = true → JB X W KE A n μ' P) ∧ (b = false → JB X W KE B n μ' P)) : JS X W KE (.If c A B pos) n μ P :=
  js_of (ps_if ptC pbC pbC) fun σ H D ev rp t q => by
    refine h σ H _ ev rp t fun u H1 μ1 h1 s1 r1 => ?_
    cases u with
    | true => rw [if_pos rfl]; exact h1.1 rfl σ H1 D (ev.step s1) r1 (t.step s1) (q.step s1)
    | false => rw [if_neg Bool.false_ne_true]; exact h1.2 rfl σ H1 D (ev.step s1) r1 (t.step s1) (q.step s1)
theorem js_augI (i : Nat) {op : Operator} {g : Int → Int → Int} {z : Int} (c : Cok kl X W) (hi : X.N[i]? = some x) (ho : PIp X op (ipI g)) (hn : n[i]? = some (some (.int z))) (h : JE X W KE e n μ fun d μ' => ∃ y, d = .int y ∧ P.nx (n.set i (some (.int (g z y)))) μ')
    (hx : Loc X.env.scope x := by first | exact Or.inl rfl | exact Or.inr rfl) (hf : X.fn x = true ∨ X.env.scope.names.lookup x = some .local := by first | exact .inl rfl | exact .inr rfl) : JS X W KE (.AugAssign (.Name x pos') op e pos) n μ P :=
  js_of (ps_aug c.nd hi hx peC ho hf) fun σ H D ev rp t q => by
    obtain ⟨v, h1, h2⟩ := ev.2 i _ hn
    cases h2
    refine ⟨.int z, h1, ?_⟩
    refine h σ H _ ev rp t fun w d H1 μ1 h1 s1 r1 d1 => ?_
    obtain ⟨y, rfl, h3⟩ := h1
    cases d1
    exact ⟨z, y, rfl, rfl, q.nx _ _ _ _ h3 ((ev.step s1).set (.int _) i) s1 r1⟩
/-- o.f = e, o a mutable instance -/
theorem js_fld (h : JE X W KE e n μ fun y μ1 => JE X W KE o n μ1 fun d μ2 => ∃ a C fs, d = .obj a ∧ μ2 a = some (.ins C fs) ∧ Cls X.K C ∧ NoAttr X.K C f ∧ fs.length < 1000 ∧ P.nx n (updM μ2 a (.ins C (putD f y fs))))
    (hs : swapsWith e (some (.Attribute o f pos')) pos.line X.env = pure false := by rfl) : JS X W KE (.Assign [.Attribute o f pos'] e pos) n μ P :=
  js_of (ps_fld peC peC hs) fun σ H D ev rp t q => by
    refine h σ H _ ev rp t fun w y H1 μ1 h1 s1 r1 d1 => ?_
    refine h1 σ H1 _ (ev.step s1) r1 (t.step s1) fun u d H2 μ2 h2 s2 r2 d2 => ?_
    obtain ⟨a, C, fs, rfl, ha, cl, na, hl, hk⟩ := h2
    cases d2
    obtain ⟨dx, vs, e2, fr⟩ := r2 _ _ ha
    refine ⟨a, C, dx, vs, rfl, e2, cl, na, by rw [fr.length]; exact hl, ?_⟩
    have s3 := Step.mut (H := H2) (o := .ins C dx (putF f w vs)) (u := .ins C (putD f y fs)) ha
    have s123 := (s1.trans s2).trans s3
    exact q.nx _ _ _ _ hk (ev.step s123) s123 (r2.put s3 ⟨dx, _, upd_same, (fr.step s3).put ((d1.step s2).step s3)⟩)
/-- a, b = e and a, b, c = e, e a tuple -/
theorem js_tup2 (i1 i2 : Nat) {x1 x2 : Str} {p1 p2 p3 : Pos} {kk} (c : Cok kl X W) (h1 : X.N[i1]? = some x1) (h2 : X.N[i2]? = some x2)
    (h : JE X W KE e n μ fun d μ' => ∃ d1 d2, d = .tup [d1, d2] ∧ P.nx ((n.set i1 (some d1)).set i2 (some d2)) μ')
    (hl1 : Loc X.env.scope x1 := by first | exact Or.inl rfl | exact Or.inr rfl) (hl2 : Loc X.env.scope x2 := by first | exact Or.inl rfl | exact Or.inr rfl)
    (hf1 : X.fn x1 = true ∨ X.env.scope.names.lookup x1 = some .local := by first | exact .inl rfl | exact .inr rfl) (hf2 : X.fn x2 = true ∨ X.env.scope.names.lookup x2 = some .local := by first | exact .inl rfl | exact .inr rfl)
    (ht : PG X (.Tuple [.Name x1 p1, .Name x2 p2] kk p3) (gTup X.K 2 (gCons (gName i1) (gCons (gName i2) gNil))) := by exact pg_tup (by first | rfl | assumption) (pgs_cons (pg_name (by assumption) (by assumption) (by assumption) (by assumption)) (pgs_cons (pg_name (by assumption) (by assumption) (by assumption) (by assumption)) pgs_nil)))
    (hs : swapsWithSole [.Tuple [.Name x1 p1, .Name x2 p2] kk p3] e pos.line X.env = pure false := by rfl) (hw : swappedStores [.Tuple [.Name x1 p1, .Name x2 p2] kk p3] e X.env = pure none := by rfl)
    (ha : (assignEach [.Tuple [.Name x1 p1, .Name x2 p2] kk p3] X.env).map (·.2) = [assign (.Tuple [.Name x1 p1, .Name x2 p2] kk p3) X.env] := by rfl) : JS X W KE (.Assign [.Tuple [.Name x1 p1, .Name x2 p2] kk p3] e pos) n μ P :=
  js_of (ps_asg peC ht hs hw ha) fun σ H D ev rp t q => by
    refine h σ H _ ev rp t fun w d H1 μ1 h1 s1 r1 q1 => ?_
    obtain ⟨d1, d2, rfl, hk⟩ := h1
    obtain ⟨a, vs, rfl, e1, fr⟩ := tup_rep q1
    cases fr with
    | cons f1 fr =>
      cases fr with
      | cons f2 fr =>
        cases fr
        exact ⟨a, _, rfl, SqT.of e1, rfl, _, _, rfl, _, _, rfl, rfl, q.nx _ _ _ _ hk (((ev.step s1).set f1 i1).set f2 i2) s1 r1⟩

/-! ### what is walked -/
inductive Src where
  | seq (d : Dv) (xs : List Dv) | tup (xs : List Dv) | rng (lo : Int) (n : Nat) | str (z : Str) | rgc (lo c : Int) (n : Nat) | dky (a : Addr) (ks : List Key)
def keyD : Key → Dv
  | .inl i => .int i
  | .inr x => .str x
def Src.items : Src → List Dv
  | .seq _ xs => xs
  | .tup xs => xs
  | .rng lo n => (List.range n).map fun (i : Nat) => .int (lo + (i : Int))
  | .str z => z.cps.toList.map fun c => .str ⟨#[c]⟩
  | .rgc lo c n => (List.range n).map fun (i : Nat) => .int (lo + (i : Int) * c)
  | .dky _ ks => ks.map keyD
/-- the walked thing stands -/
def Src.Ok (μ : M) : Src → Prop
  | .seq d xs => SqD μ d xs
  | .dky a ks => ∃ kvs, μ a = some (.fdc kvs) ∧ kvs.map (·.1) = ks
  | _ => True
def SrcRep (K : Kf) (μ : M) (H : Hp) : Src → It → Prop
  | .seq d xs, J => ∃ a, DRep K μ H (.ref a) d ∧ J = Itl K a
  | .tup xs, J => ∃ a, DRep K μ H (.ref a) (.tup xs) ∧ J = Itt K a
  | .rng lo n, J => J = Itr lo n
  | .str z, J => J = Its z
  | .rgc lo c n, J => J = Itc lo c n
  | .dky a ks, J => ∃ o kvs vs, μ a = some (.fdc kvs) ∧ H a = some (.frz o (.dK vs)) ∧ J = Itk a o vs ∧ vs.map (·.1) = ks
theorem SrcRep.step {μ' : M} {H H' : Hp} {s : Src} {J : It} (st : Step μ H μ' H') (h : SrcRep K μ H s J) : SrcRep K μ' H' s J := by
  cases s with
  | seq d xs => obtain ⟨a, r, e⟩ := h; exact ⟨a, r.step st, e⟩
  | tup xs => obtain ⟨a, r, e⟩ := h; exact ⟨a, r.step st, e⟩
  | rng lo n => exact h
  | str z => exact h
  | rgc lo c n => exact h
  | dky a ks => obtain ⟨o, kvs, vs, e1, e2, e3⟩ := h; exact ⟨o, kvs, vs, (st.l a _ _ e2 e1).2, (st.l a _ _ e2 e1).1, e3⟩
theorem src_turn {H : Hp} {s : Src} {J : It} (h : SrcRep K μ H s J) (r : Rep K μ H) (ok : s.Ok μ) : (s.items.length ≤ i → J.stop i H) ∧ ∀ x, s.items[i]? = some x → J.go i H ∧ ∀ v H', J.yld i H v H' → H' = H ∧ DRep K μ H v x := by
  cases s with
  | seq d xs =>
    obtain ⟨a, rr, rfl⟩ := h
    obtain ⟨a', vs, ea, ha, ra⟩ := (show SqD μ d xs from ok).rep r rr
    cases ea
    refine ⟨fun hl => ⟨vs, ha, by rw [ra.length]; exact hl⟩, fun x hx => ?_⟩
    obtain ⟨v, h1, h2⟩ := ra.get hx
    exact ⟨⟨vs, v, ha, h1⟩, fun v' H' ⟨e, y⟩ => ⟨e, by have := y vs ha; rw [h1] at this; cases this; exact h2⟩⟩
  | tup xs =>
    obtain ⟨a, rr, rfl⟩ := h
    obtain ⟨a', vs, ea, ha, ra⟩ := tup_rep rr
    cases ea
    refine ⟨fun hl => ⟨vs, SqT.of ha, by rw [ra.length]; exact hl⟩, fun x hx => ?_⟩
    obtain ⟨v, h1, h2⟩ := ra.get hx
    exact ⟨⟨vs, v, SqT.of ha, h1⟩, fun v' H' ⟨e, y⟩ => ⟨e, by have := y vs (SqT.of ha); rw [h1] at this; cases this; exact h2⟩⟩
  | rng lo n =>
    cases h
    refine ⟨fun hl => by have z : n ≤ i := by simpa [Src.items] using hl
                         exact z, fun x hx => ?_⟩
    have hx' : ((List.range n).map fun (i : Nat) => Dv.int (lo + (i : Int)))[i]? = some x := hx
    rw [List.getElem?_map] at hx'
    have hi : i < n := by
      by_cases z : i < n
      · exact z
      · rw [List.getElem?_eq_none (by simpa using z)] at hx'; cases hx'
    rw [List.getElem?_range hi] at hx'
    cases hx'
    exact ⟨hi, fun v H' ⟨e, y⟩ => ⟨e, by rw [y]; exact .int _⟩⟩
  | rgc lo c n =>
    cases h
    refine ⟨fun hl => by have z : n ≤ i := by simpa [Src.items] using hl
                         exact z, fun x hx => ?_⟩
    have hx' : ((List.range n).map fun (i : Nat) => Dv.int (lo + (i : Int) * c))[i]? = some x := hx
    rw [List.getElem?_map] at hx'
    have hi : i < n := by
      by_cases z : i < n
      · exact z
      · rw [List.getElem?_eq_none (by simpa using z)] at hx'; cases hx'
    rw [List.getElem?_range hi] at hx'
    cases hx'
    exact ⟨hi, fun v H' ⟨e, y⟩ => ⟨e, by rw [y]; exact .int _⟩⟩
  | dky a ks =>
    obtain ⟨o, kvs, vs, e1, e2, rfl, hk⟩ := h
    subst hk
    refine ⟨fun hl => ⟨e2, by have z : vs.length ≤ i := by simpa [Src.items] using hl
                              exact z⟩, fun x hx => ?_⟩
    have hx' : ((vs.map (·.1)).map keyD)[i]? = some x := hx
    rw [List.getElem?_map, List.getElem?_map] at hx'
    cases ev : vs[i]? with
    | none => rw [ev] at hx'; cases hx'
    | some kv =>
      rw [ev] at hx'
      cases hx'
      refine ⟨⟨e2, (List.getElem?_eq_some_iff.mp ev).1⟩, fun v H' ⟨e, k', v', q1, q2⟩ => ⟨e, ?_⟩⟩
      rw [ev] at q1
      cases q1
      subst q2
      cases k' with
      | inl i => exact .int i
      | inr z => exact .str z
  | str z =>
    cases h
    refine ⟨fun hl => by have y : z.cps.size ≤ i := by simpa [Src.items] using hl
                         exact y, fun x hx => ?_⟩
    have hx' : (z.cps.toList.map fun c => Dv.str ⟨#[c]⟩)[i]? = some x := hx
    rw [List.getElem?_map] at hx'
    cases ec : z.cps.toList[i]? with
    | none => rw [ec] at hx'; cases hx'
    | some c =>
      rw [ec] at hx'
      cases hx'
      have ec' : z.cps[i]? = some c := by simpa using ec
      refine ⟨?_, fun v H' ⟨e, c', q1, q2⟩ => ⟨e, ?_⟩⟩
      · show i < z.cps.size
        exact (Array.getElem?_eq_some_iff.mp ec').1
      · rw [ec'] at q1; cases q1; rw [q2]; exact .str _
def cI (X : Cx) (tg iter : Expr) : TI := fun σ H R => ∀ (pins : List (Addr × Obj)) (s : Shared), Inv X pins σ H s → wpAny (model X.prog X.w) X.A (eval iter X.env) (fun v s1 => wpAny (model X.prog X.w) X.A (pyIter v) (PIE X pins σ tg R) X.xe s1) X.xe s
theorem piC {tg iter : Expr} : PI X tg iter (cI X tg iter) := ⟨fun pins s _ _ _ I h => h pins s I⟩
def JI (X : Cx) (W : WX) (KE : XD) (tg iter : Expr) (n : En) (μ : M) (ks : Src → M → Prop) : Prop := ∀ (σ : L2.St) (H : Hp) (R : It → Hp → Prop), Env X.K μ H σ n → Rep X.K μ H → Thr X.K W KE μ H →
  (∀ s J H' μ', ks s μ' → s.Ok μ' → SrcRep X.K μ' H' s J → Step μ H μ' H' → Rep X.K μ' H' → R J H') → cI X tg iter σ H R
theorem ji_of {tg iter : Expr} {ks : Src → M → Prop} {wi : TI} (h : PI X tg iter wi) (q : ∀ (σ : L2.St) (H : Hp) (R : It → Hp → Prop), Env X.K μ H σ n → Rep X.K μ H → Thr X.K W KE μ H →
  (∀ s J H' μ', ks s μ' → s.Ok μ' → SrcRep X.K μ' H' s J → Step μ H μ' H' → Rep X.K μ' H' → R J H') → wi σ H R) : JI X W KE tg iter n μ ks := fun σ H R a b c d pins s I => h.run pins s σ H R I (q σ H R a b c d)
theorem ji_seq {tg iter : Expr} {ks : Src → M → Prop} (h : JE X W KE iter n μ fun d μ1 => ∃ xs, SqD μ1 d xs ∧ ks (.seq d xs) μ1) : JI X W KE tg iter n μ ks :=
  ji_of (pi_list peC) fun σ H R ev rp t q => by
    refine h σ H _ ev rp t fun v d H1 μ1 h1 s1 r1 d1 => ?_
    obtain ⟨xs, l, hk⟩ := h1
    obtain ⟨a, vs, rfl, ha, ra⟩ := l.rep r1 d1
    exact ⟨a, rfl, ⟨vs, ha⟩, q (.seq d xs) _ _ _ hk l ⟨a, d1, rfl⟩ s1 r1⟩
theorem ji_tup {tg iter : Expr} {ks : Src → M → Prop} (h : JE X W KE iter n μ fun d μ1 => ∃ xs, d = .tup xs ∧ ks (.tup xs) μ1) : JI X W KE tg iter n μ ks :=
  ji_of (pi_tup peC) fun σ H R ev rp t q => by
    refine h σ H _ ev rp t fun v d H1 μ1 h1 s1 r1 d1 => ?_
    obtain ⟨xs, rfl, hk⟩ := h1
    obtain ⟨a, vs, rfl, ha, ra⟩ := tup_rep d1
    exact ⟨a, rfl, ⟨vs, SqT.of ha⟩, q (.tup xs) _ _ _ hk trivial ⟨a, d1, rfl⟩ s1 r1⟩
theorem ji_str {tg iter : Expr} {ks : Src → M → Prop} (h : JE X W KE iter n μ fun d μ1 => ∃ z, d = .str z ∧ ks (.str z) μ1) : JI X W KE tg iter n μ ks :=
  ji_of (pi_str peC) fun σ H R ev rp t q => by
    refine h σ H _ ev rp t fun v d H1 μ1 h1 s1 r1 d1 => ?_
    obtain ⟨z, rfl, hk⟩ := h1
    cases d1
    exact ⟨z, rfl, q (.str z) _ _ _ hk trivial rfl s1 r1⟩
theorem ji_keys {tg iter : Expr} {ks : Src → M → Prop} (h : JE X W KE iter n μ fun d μ1 => ∃ a kvs, d = .obj a ∧ μ1 a = some (.fdc kvs) ∧ ks (.dky a (kvs.map (·.1))) μ1) : JI X W KE tg iter n μ ks :=
  ji_of (pi_keys peC) fun σ H R ev rp t q => by
    refine h σ H _ ev rp t fun v d H1 μ1 h1 s1 r1 d1 => ?_
    obtain ⟨a, kvs, rfl, ha, hk⟩ := h1
    cases d1
    obtain ⟨o, vs, e, rr⟩ := r1 _ _ ha
    exact ⟨a, o, rfl, .inl ⟨vs, e, q (.dky a (kvs.map (·.1))) _ _ _ hk ⟨kvs, ha, rfl⟩ ⟨o, kvs, vs, ha, e, rfl, rr.keys⟩ s1 r1⟩⟩
theorem ji_range1 {tg : Expr} {ks : Src → M → Prop} (hm : X.mg "range" = none) (h : JA X W KE [a] n μ fun ds μ1 => ∃ j : Int, ds = [.int j] ∧ -(2 ^ 62) ≤ j ∧ j < 2 ^ 62 ∧ ks (.rng 0 j.toNat) μ1) (hg : Gl X "range" := by rfl)
    (hs : starEach [a] X.env = [(false, eval a X.env)] := by rfl) : JI X W KE tg (.Call (.Name "range" p) [a] [] pos) n μ ks :=
  ji_of (pi_range1 hg hm paC hs) fun σ H R ev rp t q => by
    refine h σ H _ ev rp t fun vs ds H1 μ1 h1 s1 r1 d1 => ?_
    obtain ⟨j, rfl, l1, l2, hk⟩ := h1
    cases d1 with
    | cons d0 dn =>
      cases dn; cases d0
      exact ⟨j, rfl, l1, l2, q (.rng 0 j.toNat) _ _ _ hk trivial rfl s1 r1⟩
theorem ji_range2 {tg : Expr} {ks : Src → M → Prop} (hm : X.mg "range" = none) (h : JA X W KE [a, b] n μ fun ds μ1 => ∃ i j : Int, ds = [.int i, .int j] ∧ (-(2 ^ 62) ≤ i ∧ i < 2 ^ 62 ∧ -(2 ^ 62) ≤ j ∧ j < 2 ^ 62) ∧ ks (.rng i (j - i).toNat) μ1) (hg : Gl X "range" := by rfl)
    (hs : starEach [a, b] X.env = [(false, eval a X.env), (false, eval b X.env)] := by rfl) (hs2 : starEach [b] X.env = [(false, eval b X.env)] := by rfl) : JI X W KE tg (.Call (.Name "range" p) [a, b] [] pos) n μ ks :=
  ji_of (pi_range2 hg hm paC hs hs2) fun σ H R ev rp t q => by
    refine h σ H _ ev rp t fun vs ds H1 μ1 h1 s1 r1 d1 => ?_
    obtain ⟨i, j, rfl, l1, hk⟩ := h1
    cases d1 with
    | cons d0 dn =>
      cases dn with
      | cons d1 dn =>
        cases dn; cases d0; cases d1
        exact ⟨i, j, rfl, l1, q (.rng i (j - i).toNat) _ _ _ hk trivial rfl s1 r1⟩
theorem ji_range3 {c : Expr} {tg : Expr} {ks : Src → M → Prop} (hm : X.mg "range" = none) (h : JA X W KE [a, b, c] n μ fun ds μ1 => ∃ (i j s : Int) (m : Nat), ds = [.int i, .int j, .int s] ∧ RgC i j s m ∧ ks (.rgc i s m) μ1) (hg : Gl X "range" := by rfl)
    (hs : starEach [a, b, c] X.env = (false, eval a X.env) :: starEach [b, c] X.env := by rfl) (hpl : (backTo pos (starEach [b, c] X.env)).any (·.1) = false := by rfl) : JI X W KE tg (.Call (.Name "range" p) [a, b, c] [] pos) n μ ks :=
  ji_of (pi_range3 hg hm paC hs hpl) fun σ H R ev rp t q => by
    refine h σ H _ ev rp t fun vs ds H1 μ1 h1 s1 r1 d1 => ?_
    obtain ⟨i, j, s, m, rfl, l1, hk⟩ := h1
    cases d1 with
    | cons d0 dn =>
      cases dn with
      | cons d1 dn =>
        cases dn with
        | cons d2 dn =>
          cases dn; cases d0; cases d1; cases d2
          exact ⟨i, j, s, m, rfl, l1, q (.rgc i s m) _ _ _ hk trivial rfl s1 r1⟩

/-- a for, by a word over the turn, the names, the store -/
theorem js_for (i : Nat) {tg iter : Expr} (cn : X.calm = true) (ow : PassesOwn (model X.prog X.w) X.A X.env X.xe) (hg : PG X tg (gName i))
    (h : JI X W KE tg iter n μ fun s μ1 => ∃ Iv : Nat → En → M → Prop, Iv 0 n μ1 ∧ (∀ j n' μ', Iv j n' μ' → s.Ok μ') ∧
      (∀ j x n' μ', s.items[j]? = some x → Iv j n' μ' → JB X W KE A (n'.set i (some x)) μ' { nx := Iv (j + 1), ct := Iv (j + 1), bk := P.nx, rt := P.rt }) ∧ ∀ n' μ', Iv s.items.length n' μ' → P.nx n' μ') (hs : ∀ x, foldedSetIterable iter X.env x = pure x := by intro _; rfl) : JS X W KE (.For tg iter A [] pos) n μ P :=
  js_of (ps_for ow cn piC hg pbC hs) fun σ H D ev rp t q => by
    refine h σ H _ ev rp t fun s J H1 μ1 h1 ok1 sr1 s1 r1 => ?_
    obtain ⟨Iv, h0, hok, hturn, hend⟩ := h1
    refine ⟨fun j m σ' H' => m = s.items.length - j ∧ j ≤ s.items.length ∧ ∃ n' μ', Iv j n' μ' ∧ Env X.K μ' H' σ' n' ∧ Step μ H μ' H' ∧ Rep X.K μ' H' ∧ SrcRep X.K μ' H' s J, ⟨s.items.length, by simp, Nat.zero_le _, n, μ1, h0, ev.step s1, s1, r1, sr1⟩, ?_⟩
    rintro j m σ' H' ⟨rfl, hj, n', μ', iv, ev', st', rp', sr'⟩
    have T := src_turn (i := j) sr' rp' (hok j n' μ' iv)
    by_cases hlt : j < s.items.length
    · obtain ⟨hgo, hy⟩ := T.2 _ (List.getElem?_eq_getElem hlt)
      refine .inr ⟨hgo, fun σ2 H2 => ∃ n2 μ2, Iv (j + 1) n2 μ2 ∧ Env X.K μ2 H2 σ2 n2 ∧ Step μ H μ2 H2 ∧ Rep X.K μ2 H2 ∧ SrcRep X.K μ2 H2 s J, fun σ2 H2 z => ⟨s.items.length - (j + 1), by omega, rfl, hlt, z⟩, fun v H2 yv => ?_⟩
      obtain ⟨rfl, dv⟩ := hy v H2 yv
      refine hturn j _ n' μ' (List.getElem?_eq_getElem hlt) iv (σ'.set i (some v)) _ _ (ev'.set dv i) rp' (t.step st') ⟨fun σ2 e2 H2 μ2 a b c d => ?_, q.rt.step st', fun σ2 e2 H2 μ2 a b c d => ?_, fun σ2 e2 H2 μ2 a b c d => ?_⟩
      · exact ⟨e2, μ2, a, b, st'.trans c, d, sr'.step c⟩
      · exact q.nx _ _ _ _ a b (st'.trans c) d
      · exact ⟨e2, μ2, a, b, st'.trans c, d, sr'.step c⟩
    · have e : j = s.items.length := by omega
      subst e
      exact .inl ⟨T.1 (Nat.le_refl _), q.nx _ _ _ _ (hend n' μ' iv) ev' st' rp'⟩
/-- while, by a word and a measure -/
theorem js_while (ow : PassesOwn (model X.prog X.w) X.A X.env X.xe) (Iv : Nat → En → M → Prop) (m0 : Nat) (h0 : Iv m0 n μ)
    (hs : ∀ m n' μ', Iv m n' μ' → JT X W KE c n' μ' fun b μ2 => (b = true → JB X W KE A n' μ2 { nx := fun n3 μ3 => ∃ m', m' < m ∧ Iv m' n3 μ3, ct := fun n3 μ3 => ∃ m', m' < m ∧ Iv m' n3 μ3, bk := P.nx, rt := P.rt }) ∧ (b = false → P.nx n' μ2)) : JS X W KE (.While c A [] pos) n μ P :=
  js_of (ps_while ow ptC pbC) fun σ H D ev rp t q => by
    refine ⟨fun m σ' H' => ∃ n' μ', Iv m n' μ' ∧ Env X.K μ' H' σ' n' ∧ Step μ H μ' H' ∧ Rep X.K μ' H', ⟨m0, n, μ, h0, ev, Step.refl _ _, rp⟩, ?_⟩
    rintro m σ' H' ⟨n', μ', iv, ev', st', rp'⟩
    refine hs m n' μ' iv σ' H' _ ev' rp' (t.step st') fun b H2 μ2 h2 s2 r2 => ?_
    have st2 := st'.trans s2
    cases b with
    | true =>
      rw [if_pos rfl]
      refine ⟨fun σ3 H3 => ∃ m', m' < m ∧ ∃ n3 μ3, Iv m' n3 μ3 ∧ Env X.K μ3 H3 σ3 n3 ∧ Step μ H μ3 H3 ∧ Rep X.K μ3 H3, fun σ3 H3 z => z, ?_⟩
      refine h2.1 rfl σ' H2 _ (ev'.step s2) r2 (t.step st2) ⟨fun σ3 e3 H3 μ3 a b c d => ?_, q.rt.step st2, fun σ3 e3 H3 μ3 a b c d => ?_, fun σ3 e3 H3 μ3 a b c d => ?_⟩
      · obtain ⟨m', l, z⟩ := a
        exact ⟨m', l, e3, μ3, z, b, st2.trans c, d⟩
      · exact q.nx _ _ _ _ a b (st2.trans c) d
      · obtain ⟨m', l, z⟩ := a
        exact ⟨m', l, e3, μ3, z, b, st2.trans c, d⟩
    | false =>
      rw [if_neg Bool.false_ne_true]
      exact q.nx _ _ _ _ (h2.2 rfl) (ev'.step s2) st2 r2
end
end DL

/-! ## Comprehensions, defs, the law's end -/
namespace DL
open PySem PySem.Spec L2
abbrev W0 : WX := fun _ _ _ _ => False
abbrev KE0 : XD := fun _ _ _ _ => False
theorem Thr.no {K : Kf} {μ : M} {H : Hp} : Thr K W0 KE0 μ H := fun _ _ _ _ _ _ _ h => False.elim h
theorem Cok.blk {kl : Nat} {X : Cx} {W : WX} (c : Cok kl X W) {s : Shared} {H : Hp} {scope : Scope} {env : PySem.Env} {fp : List Addr} : Cok kl (X.blk s H scope env fp) W0 := ⟨c.room, c.calm, takes0, c.nd⟩
section
variable {X : Cx} {W : WX} {KE : XD} {tg iter elt e a b c o : Expr} {ifs es rest : List Expr} {st : Stmt} {sts A B : List Stmt} {n : En} {μ : M} {k : DK} {P : Ed} {pos pos' p apos : Pos} {x m f y : Str} {K : Kf} {kl j i : Nat} {scope : Scope}
def tIfs (X : Cx) : List Expr → TT
  | [] => tYes
  | [c] => cT X c
  | _ => fun _ _ _ => False
theorem ptsC {ifs : List Expr} : PTs X ifs (tIfs X ifs) := by
  match ifs with
  | [] => exact pts_nil
  | [c] => exact pts_one ptC
  | _ :: _ :: _ => exact ⟨fun _ _ _ _ _ _ h => h.elim⟩
def JIf (X : Cx) (W : WX) (KE : XD) : List Expr → En → M → (Bool → M → Prop) → Prop
  | [], _, μ, kb => kb true μ
  | [c], n, μ, kb => JT X W KE c n μ kb
  | _, _, _, _ => False
theorem JIf.run {ifs : List Expr} {kb : Bool → M → Prop} (h : JIf X W KE ifs n μ kb) {σ : L2.St} {H : Hp} {Q : Bool → Hp → Prop} (ev : Env X.K μ H σ n) (rp : Rep X.K μ H) (t : Thr X.K W KE μ H) (q : TlB X.K μ H kb Q) : tIfs X ifs σ H Q := by
  match ifs, h with
  | [], h => exact q _ _ μ h (Step.refl _ _) rp
  | [c], h => exact h σ H Q ev rp t q
/-- one turn of a comprehension: the test, then the element -/
def LcTurn (X : Cx) (scope : Scope) (ifs : List Expr) (elt : Expr) (n : En) (μ : M) (ko : Option Dv → M → Prop) : Prop :=
  ∀ (s : Shared) (H : Hp) (C : Addr) (cl : List (Str × Addr)) (fp : List Addr), JIf (X.blk s H scope (compEnvC scope cl C X.env) fp) W0 KE0 ifs n μ fun b μ2 =>
    (b = true → ∀ (s : Shared) (H : Hp) (C : Addr) (cl : List (Str × Addr)) (fp : List Addr), JE (X.blk s H scope (compEnvC scope cl C X.env) fp) W0 KE0 elt n μ2 fun y μ3 => ko (some y) μ3) ∧ (b = false → ko none μ2)
/-- the comprehension's list, as it is from now on -/
def LcEnd (μ : M) (a : Addr) (acc : List Dv) (k : DK) : Prop := k (.lst acc) (delM μ a) ∨ (μ a = some (.lst acc) ∧ k (.obj a) μ)
def LcAll (X : Cx) (scope : Scope) (ifs : List Expr) (elt : Expr) (i : Nat) (n : En) (k : DK) (s : Src) (μ1 : M) : Prop := ∀ a, μ1 a = none → ∃ Iv : Nat → List Dv → M → Prop, Iv 0 [] (updM μ1 a (.lst [])) ∧
  (∀ j acc μ', Iv j acc μ' → s.Ok μ' ∧ μ' a = some (.lst acc) ∧ acc.length < sizeLine) ∧
  (∀ j x acc μ', s.items[j]? = some x → Iv j acc μ' → LcTurn X scope ifs elt ((n.set i none).set i (some x)) μ' fun o μ3 => match o with
    | some y => μ3 a = some (.lst acc) ∧ Iv (j + 1) (acc ++ [y]) (updM μ3 a (.lst (acc ++ [y])))
    | none => Iv (j + 1) acc μ3) ∧
  ∀ acc μ', Iv s.items.length acc μ' → LcEnd μ' a acc k
abbrev tIfF (X : Cx) (scope : Scope) (ifs : List Expr) : TT := fun σ H Q => ∀ (s : Shared) (H0 : Hp) (C : Addr) (cl : List (Str × Addr)) (fp : List Addr), tIfs (X.blk s H0 scope (compEnvC scope cl C X.env) fp) ifs σ H Q
abbrev tElF (X : Cx) (scope : Scope) (elt : Expr) : TE := fun σ H Q => ∀ (s : Shared) (H0 : Hp) (C : Addr) (cl : List (Str × Addr)) (fp : List Addr), cE (X.blk s H0 scope (compEnvC scope cl C X.env) fp) elt σ H Q
theorem tIfF_ok (s : Shared) (H : Hp) (C : Addr) (cl : List (Str × Addr)) (fp : List Addr) : PTs (X.blk s H scope (compEnvC scope cl C X.env) fp) ifs (tIfF X scope ifs) := ⟨fun pins s' σ H' Q I h => ptsC.run pins s' σ H' Q I (h s H C cl fp)⟩
theorem tElF_ok (s : Shared) (H : Hp) (C : Addr) (cl : List (Str × Addr)) (fp : List Addr) : PE (X.blk s H scope (compEnvC scope cl C X.env) fp) elt (tElF X scope elt) := ⟨fun pins s' σ H' Q I h => h s H C cl fp pins s' I⟩
theorem lc_run (h : JI X W KE tg iter n μ fun s μ1 => LcAll X scope ifs elt i n k s μ1) {σ : L2.St} {H : Hp} {Q : VK} (ev : Env X.K μ H σ n) (rp : Rep X.K μ H) (t : Thr X.K W KE μ H) (q : Tl X.K μ H k Q) :
    tLc (cI X tg iter) (gName i) (tIfF X scope ifs) (tElF X scope elt) [i] σ H Q := by
  refine h σ H _ ev rp t fun s J H1 μ1 h1 ok1 sr1 s1 r1 => fun D hD => ?_
  obtain ⟨Iv, h0, hok, hturn, hend⟩ := h1 D (r1.free hD)
  have sN : Step μ1 H1 (updM μ1 D (.lst [])) (upd H1 D (.lst [])) := Step.newM hD
  have evW : ∀ {μ' : M} {H' : Hp}, Step μ H μ' H' → Env X.K μ' H' (wipe σ [i]) (n.set i none) := fun st => (ev.step st).wipe [i]
  refine ⟨fun j m H' => m = s.items.length - j ∧ j ≤ s.items.length ∧ ∃ acc μ', Iv j acc μ' ∧ Step μ H μ' H' ∧ Rep X.K μ' H' ∧ SrcRep X.K μ' H' s J, ⟨s.items.length, by simp, Nat.zero_le _, [], _, h0, s1.trans sN, r1.put sN ⟨[], upd_same, .nil⟩, sr1.step sN⟩, ?_⟩
  rintro j m H' ⟨rfl, hj, acc, μ', iv, st', rp', sr'⟩
  obtain ⟨ok', ha', hl'⟩ := hok j acc μ' iv
  have T := src_turn (i := j) sr' rp' ok'
  by_cases hlt : j < s.items.length
  · obtain ⟨hgo, hy⟩ := T.2 _ (List.getElem?_eq_getElem hlt)
    refine .inr ⟨hgo, fun H2 => ∃ acc2 μ2, Iv (j + 1) acc2 μ2 ∧ Step μ H μ2 H2 ∧ Rep X.K μ2 H2 ∧ SrcRep X.K μ2 H2 s J, fun H2 z => ⟨s.items.length - (j + 1), by omega, rfl, hlt, z⟩, fun v H2 yv => ?_⟩
    obtain ⟨rfl, dv⟩ := hy v H2 yv
    have hT := hturn j _ acc μ' (List.getElem?_eq_getElem hlt) iv
    have ev2 : Env X.K μ' H2 ((wipe σ [i]).set i (some v)) ((n.set i none).set i (some s.items[j])) := (evW st').set dv i
    refine ⟨?_, fun sA HA CA clA fpA => ?_⟩
    · show ((σ.set i none).set i (some v)).set i none = σ.set i none
      rw [List.set_set, List.set_set]
    · refine (hT sA HA CA clA fpA).run ev2 rp' Thr.no fun b H3 μ3 h3 s3 r3 => ?_
      cases b with
      | true =>
        rw [if_pos rfl]
        intro sB HB CB clB fpB
        refine h3.1 rfl sB HB CB clB fpB _ H3 _ (ev2.step s3) r3 Thr.no fun y d H4 μ4 h4 s4 r4 d4 => ?_
        obtain ⟨ha4, iv4⟩ := h4
        obtain ⟨vs, e4, rr⟩ := r4 _ _ ha4
        have s5 := Step.mut (H := H4) (o := .lst (vs ++ [y])) (u := .lst (acc ++ [d])) ha4
        exact ⟨vs, e4, by rw [rr.length]; exact hl', acc ++ [d], _, iv4, ((st'.trans s3).trans s4).trans s5, r4.put s5 ⟨_, upd_same, (rr.step s5).append (.one (d4.step s5))⟩, (((sr'.step s3).step s4).step s5)⟩
      | false =>
        rw [if_neg Bool.false_ne_true]
        exact ⟨acc, μ3, h3.2 rfl, st'.trans s3, r3, sr'.step s3⟩
  · have e : j = s.items.length := by omega
    subst e
    refine .inl ⟨T.1 (Nat.le_refl _), ?_⟩
    rcases hend acc μ' iv with hk | ⟨hm, hk⟩
    · obtain ⟨vs, e4, rr⟩ := rp' _ _ ha'
      exact q _ _ _ _ hk (st'.trans (Step.freeze ha')) (rp'.freeze ha') (.lst e4 delM_same (rr.step (Step.freeze ha')))
    · exact q _ _ _ _ hk st' rp' (.obj D)
theorem je_lcG (i : Nat) (cn : X.calm = true) (nd : X.N.Nodup) (ok : BlkOk X.N X.env.scope scope [(x, i)]) (hg : ∀ (s : Shared) (H : Hp) (C : Addr) (cl : List (Str × Addr)) (fp : List Addr), PG (X.blk s H scope (compEnvC scope cl C X.env) fp) tg (gName i))
    (h : JI X W KE tg iter n μ fun s μ1 => LcAll X scope ifs elt i n k s μ1) (hs : ∀ x, foldedSetIterable iter X.env x = pure x := by intro _; rfl) : JE X W KE (.ListComp elt [⟨tg, iter, ifs, 0⟩] scope pos) n μ k :=
  je_of (pe_lc cn nd piC ok hg (fun s H C cl fp => tIfF_ok s H C cl fp) (fun s H C cl fp => tElF_ok s H C cl fp) hs) fun σ H Q ev rp t q => lc_run h ev rp t q
theorem js_setLcG (i ii : Nat) {py spos : Pos} (cn : X.calm = true) (nd : X.N.Nodup) (hy : X.N[ii]? = some y) (hyl : X.env.scope.names.lookup y = some .local) (hsw : swapsWith (.ListComp elt [⟨tg, iter, ifs, 0⟩] scope pos) (some (.Name y py)) spos.line X.env = pure true)
    (ok : BlkOk X.N X.env.scope scope [(x, i)]) (hg : ∀ (s : Shared) (H : Hp) (C : Addr) (cl : List (Str × Addr)) (fp : List Addr), PG (X.blk s H scope (compEnvC scope cl C X.env) fp) tg (gName i))
    (h : JI X W KE tg iter n μ fun s μ1 => LcAll X scope ifs elt i n (fun d μ' => P.nx (n.set ii (some d)) μ') s μ1) (hs : ∀ x, foldedSetIterable iter X.env x = pure x := by intro _; rfl) : JS X W KE (.Assign [.Name y py] (.ListComp elt [⟨tg, iter, ifs, 0⟩] scope pos) spos) n μ P :=
  js_of (ps_setLc cn nd hy hyl hsw piC ok hg (fun s H C cl fp => tIfF_ok s H C cl fp) (fun s H C cl fp => tElF_ok s H C cl fp) hs) fun σ H D ev rp t q => lc_run (Q := fun x H1 => gName ii x σ H1 D.nx) h ev rp t fun v d H' μ' hk st r dd => q.nx _ _ _ _ hk ((ev.step st).set dd ii) st r
/-- more stands -/
def ExtM (μ μ' : M) : Prop := ∀ a o, μ a = some o → μ' a = some o
theorem ExtM.refl (μ : M) : ExtM μ μ := fun _ _ h => h
theorem Src.Ok.ext {s : Src} {μ μ' : M} (h : s.Ok μ) (e : ExtM μ μ') : s.Ok μ' := by
  cases s with
  | seq d xs =>
    cases (show SqD μ d xs from h) with
    | lst xs => exact .lst _
    | fro xs => exact .fro _
    | obj z => exact .obj (e _ _ z)
  | tup xs => trivial
  | rng lo n => trivial
  | rgc lo c n => trivial
  | dky a ks => obtain ⟨kvs, e1, e2⟩ := h; exact ⟨kvs, e _ _ e1, e2⟩
  | str z => trivial
/-- a comprehension that changes nothing -/
theorem lc_pure (f : Dv → Option Dv) {s : Src} {μ1 : M} (hok : s.Ok μ1) (hl : s.items.length < sizeLine)
    (h : ∀ (j : Nat) (x : Dv) (μ' : M), s.items[j]? = some x → ExtM μ1 μ' → LcTurn X scope ifs elt ((n.set i none).set i (some x)) μ' fun o μ3 => o = f x ∧ μ3 = μ') (hk : k (.lst (s.items.filterMap f)) μ1) : LcAll X scope ifs elt i n k s μ1 := fun a ha => by
  have ex : ∀ acc, ExtM μ1 (updM μ1 a (.lst acc)) := fun acc b u e => by rw [updM_ne (ne_ofM e ha)]; exact e
  refine ⟨fun j acc μ' => acc = (s.items.take j).filterMap f ∧ μ' = updM μ1 a (.lst acc), ⟨rfl, rfl⟩, ?_, ?_, ?_⟩
  · rintro j acc μ' ⟨rfl, rfl⟩
    refine ⟨hok.ext (ex _), updM_same, Nat.lt_of_le_of_lt (List.length_filterMap_le _ _) ?_⟩
    rw [List.length_take]; omega
  · rintro j x acc μ' hx ⟨rfl, rfl⟩
    have ht : (s.items.take (j + 1)).filterMap f = (s.items.take j).filterMap f ++ (match f x with | some y => [y] | none => []) := by
      rw [List.take_add_one, List.filterMap_append, hx]
      cases e : f x with
      | none => simp [e]
      | some y => simp [e]
    intro s1 H1 C1 cl1 fp1
    have hT := h j x _ hx (ex ((s.items.take j).filterMap f)) s1 H1 C1 cl1 fp1
    have go : ∀ (b : Bool) (μ2 : M), ((b = true → ∀ (sS : Shared) (H : Hp) (C : Addr) (cl : List (Str × Addr)) (fp : List Addr), JE (X.blk sS H scope (compEnvC scope cl C X.env) fp) W0 KE0 elt ((n.set i none).set i (some x)) μ2 fun y μ3 => some y = f x ∧ μ3 = updM μ1 a (.lst ((s.items.take j).filterMap f))) ∧ (b = false → none = f x ∧ μ2 = updM μ1 a (.lst ((s.items.take j).filterMap f)))) →
        ((b = true → ∀ (sS : Shared) (H : Hp) (C : Addr) (cl : List (Str × Addr)) (fp : List Addr), JE (X.blk sS H scope (compEnvC scope cl C X.env) fp) W0 KE0 elt ((n.set i none).set i (some x)) μ2 fun y μ3 => μ3 a = some (.lst ((s.items.take j).filterMap f)) ∧ ((s.items.take j).filterMap f ++ [y] = (s.items.take (j + 1)).filterMap f ∧ updM μ3 a (.lst ((s.items.take j).filterMap f ++ [y])) = updM μ1 a (.lst ((s.items.take j).filterMap f ++ [y])))) ∧ (b = false → (s.items.take j).filterMap f = (s.items.take (j + 1)).filterMap f ∧ μ2 = updM μ1 a (.lst ((s.items.take j).filterMap f)))) := fun b μ2 z => ⟨fun hb sS H C cl fp => (z.1 hb sS H C cl fp).mono fun y μ3 ⟨z1, z2⟩ => by
          subst z2
          exact ⟨updM_same, by rw [ht, ← z1], updM_updM⟩, fun hb => by
          obtain ⟨z1, z2⟩ := z.2 hb
          exact ⟨by rw [ht, ← z1, List.append_nil], z2⟩⟩
    match ifs, hT with
    | [], hT => exact go _ _ hT
    | [c], hT => exact JT.mono hT fun b μ2 z => go _ _ z
  · rintro acc μ' ⟨rfl, rfl⟩
    rw [List.take_length]
    exact .inl (by rw [delM_updM ha]; exact hk)

/-! ### defs -/
theorem fn_data {Pg : Program} {w : World} {K : Kf} {mg : Str → Option Value} {base : Heap} {x qual : Str} {st : Stmt} {f : Addr} {fd : FuncData} {N ps : List Str} {k : Nat} {S : DSp} (F : Fun K x qual st f fd) (Sc : FnScope N ps (defScope st)) (len : ∀ ds μ kd ke, S ds μ kd ke → ds.length = ps.length)
    (hbody : ∀ (cdv : Value) (A : Around) (outer : List PySem.Env) (s : Shared) (H : Hp) (E : XK),
      let X := cxOf (L2.CX Pg w) Pg w K mg base N qual (defScope st) f cdv A outer s H E
      Cok k X (fun cls d _ H => E cls d H) → PassesOwn (model X.prog X.w) X.A X.env X.xe → ∀ (ds : List Dv) (μ : M) (kd : DK) (ke : XF), S ds μ kd ke →
        JB X (fun cls d _ H => E cls d H) (fun cls fs _ μ' => ke cls fs μ') (defBody st) (ds.map some ++ List.replicate (N.length - ds.length) none) μ { nx := fun _ μ' => kd .non μ', rt := kd }) : FnOk Pg w K mg base (L2.CX Pg w) (k + 1) f fd ps (toSp K S) := by
  refine F.okX Sc (fun vs H Q E h => ?_) (fun cdv A outer s H vs Q E hr h => ?_)
  · obtain ⟨ds, μ, kd, ke, dr, rp, sp, _⟩ := h
    rw [dr.length]
    exact len _ _ _ _ sp
  · obtain ⟨ds, μ, kd, ke, dr, rp, sp, tl, tx⟩ := h
    refine ⟨_, pbC, hbody cdv A outer s H E ⟨hr, rfl, takes_of rfl rfl rfl rfl, Sc.nd⟩ (passes_of rfl) ds μ kd ke sp _ H _ ?_ rp (fun cls fs d σ' e' H' μ' h1 _ s1 r1 x1 => tx cls fs d H' μ' h1 s1 r1 x1) ⟨fun σ' e' H' μ' h1 _ s1 r1 => tl .non .non H' μ' h1 s1 r1 .non, tl, fun _ _ _ _ h => False.elim h, fun _ _ _ _ h => False.elim h⟩⟩
    unfold L2.start
    rw [dr.length]
    exact Env.start _ dr
theorem dfn_of {Pg : Program} {w : World} {K : Kf} {mg : Str → Option Value} {base : Heap} {f : Addr} {fd : FuncData} {ps : List Str} {k : Nat} {S : DSp} (F : FnOk Pg w K mg base (L2.CX Pg w) k f fd ps (toSp K S)) (hb : Binds K fd ps []) : DFn Pg w K mg base k f S [] := ⟨fd, ps, [], [], F, hb, .nil, .nil⟩
/-- the law's own promise -/
def spLaw : DSp := fun ds μ kd _ => ∃ ns : List Int, ds = [.fro (ns.map Dv.int)] ∧ ns.length ≤ 63 ∧ μ = (fun _ => none) ∧ ∀ μ', kd (.bl true) μ'
theorem law_sp {K : Kf} {H : Hp} {a : Addr} {ns : List Int} (hl : ns.length ≤ 63) (hS : SqL K H a (ns.map V.int)) : toSp K spLaw [.ref a] H (fun v _ => v = .bl true) fun _ _ _ => False := by
  refine ⟨[.fro (ns.map Dv.int)], fun _ => none, fun d _ => d = .bl true, fun _ _ _ => False, .one ?_, (fun _ _ h => by cases h), ⟨ns, rfl, hl, rfl, fun _ => rfl⟩, fun v d H' μ' hk _ _ r => ?_, fun _ _ _ _ _ h => False.elim h⟩
  · rcases hS with h | h
    · exact .fro h rfl (.ofInts ns)
    · exact .frk h (.ofInts ns)
  · subst hk
    cases r
    rfl
theorem law_CX {Pg : Program} {w : World} (H : Hp) (s : Shared) (e : Value) (s' : Shared) (h : L2.CX Pg w [] H s (fun _ _ _ => False) e s') : False := by
  obtain ⟨_, _, _, _, _, _, _, _, _, _, _, _, z⟩ := h
  exact z.elim
end
end DL

/-! ## Templates of names; handy forms -/
namespace DL
open PySem PySem.Spec L2
theorem LeE.refl (e : En) : LeE e e := ⟨rfl, fun _ _ h => h⟩
theorem LeE.nil : LeE [] [] := ⟨rfl, fun _ _ h => h⟩
theorem LeE.same {x : Option Dv} {t t' : En} (h : LeE t t') : LeE (x :: t) (x :: t') := ⟨congrArg (· + 1) h.1, fun i d q => by
  cases i with
  | zero => exact q
  | succ i => exact h.2 i d q⟩
theorem LeE.drop {x : Option Dv} {t t' : En} (h : LeE t t') : LeE (x :: t) (none :: t') := ⟨congrArg (· + 1) h.1, fun i d q => by
  cases i with
  | zero => cases q
  | succ i => exact h.2 i d q⟩
theorem LeE.trans {a b c : En} (h : LeE a b) (g : LeE b c) : LeE a c := ⟨h.1.trans g.1, fun i d q => h.2 i d (g.2 i d q)⟩
theorem LeE.set {a b : En} (h : LeE a b) (i : Nat) (x : Option Dv) : LeE (a.set i x) (b.set i x) := ⟨by rw [List.length_set, List.length_set]; exact h.1, fun j d q => by
  by_cases z : i = j
  · subst z
    by_cases hl : i < b.length
    · rw [List.getElem?_set_self hl] at q
      rw [List.getElem?_set_self (by rw [h.1]; exact hl)]
      exact q
    · rw [List.getElem?_eq_none (by rw [List.length_set]; omega)] at q
      cases q
  · rw [List.getElem?_set_ne z] at q ⊢
    exact h.2 j d q⟩
section
variable {X : Cx} {W : WX} {KE : XD} {tg iter elt e a b c o : Expr} {ifs es rest : List Expr} {st : Stmt} {sts A B : List Stmt} {n : En} {μ : M} {k : DK} {P : Ed} {pos pos' p apos : Pos} {x m f y : Str} {K : Kf} {kl j : Nat} {scope : Scope}
/-- what is known behind: at least these names -/
def Mid (Q : En → M → Prop) : En → M → Prop := fun e' μ' => ∃ e2, LeE e' e2 ∧ Q e2 μ'
theorem jb_cut (Q : En → M → Prop) (h : JS X W KE st n μ { P with nx := Mid Q }) (h2 : ∀ e μ', Q e μ' → JB X W KE sts e μ' P) : JB X W KE (st :: sts) n μ P :=
  jb_cons (h.mono (fun _ _ ⟨e2, l, q⟩ => (h2 e2 _ q).le l) (fun _ _ z => z) (fun _ _ z => z) (fun _ _ z => z))
theorem js_forT (i : Nat) (cn : X.calm = true) (ow : PassesOwn (model X.prog X.w) X.A X.env X.xe) (hg : PG X tg (gName i))
    (h : JI X W KE tg iter n μ fun s μ1 => ∃ Iv : Nat → En → M → Prop, Mid (Iv 0) n μ1 ∧ (∀ j n' μ', Iv j n' μ' → s.Ok μ') ∧
      (∀ j x e μ', s.items[j]? = some x → Iv j e μ' → JB X W KE A (e.set i (some x)) μ' { nx := Mid (Iv (j + 1)), ct := Mid (Iv (j + 1)), bk := P.nx, rt := P.rt }) ∧ ∀ e μ', Iv s.items.length e μ' → ∀ n', LeE n' e → P.nx n' μ') (hs : ∀ x, foldedSetIterable iter X.env x = pure x := by intro _; rfl) : JS X W KE (.For tg iter A [] pos) n μ P := by
  refine js_for i cn ow hg (fun σ H R ev rp t q => h σ H R ev rp t fun s J H' μ' hh => q s J H' μ' ?_) hs
  obtain ⟨Iv, h0, hok, ht, hd⟩ := hh
  exact ⟨fun j => Mid (Iv j), h0, fun j n' μ' ⟨e2, l, z⟩ => hok j e2 μ' z, fun j x n' μ' hx ⟨e2, l, z⟩ => (ht j x e2 μ' hx z).le (l.set i _), fun n' μ' ⟨e2, l, z⟩ => hd e2 μ' z n' l⟩
/-- a test whose value is told ahead, nothing changed -/
theorem jt_to (v : Bool) {kb : Bool → M → Prop} (h : JT X W KE e n μ fun b μ' => b = v ∧ μ' = μ) (hk : kb v μ) : JT X W KE e n μ kb := h.mono fun b μ' ⟨h1, h2⟩ => by subst h1; subst h2; exact hk
theorem je_to (v : Dv) (h : JE X W KE e n μ fun d μ' => d = v ∧ μ' = μ) (hk : k v μ) : JE X W KE e n μ k := h.mono fun b μ' ⟨h1, h2⟩ => by subst h1; subst h2; exact hk
theorem getD_mapF {α β : Type} (f : α → β) (xs : List α) (i : Nat) (z : α) : (xs.map f).getD i (f z) = f (xs.getD i z) := by
  rw [List.getD_eq_getElem?_getD, List.getD_eq_getElem?_getD, List.getElem?_map]
  cases xs[i]? <;> rfl
theorem at_getD {α : Type} {xs : List α} {i : Int} (d : α) (h0 : 0 ≤ i) (h1 : i < (xs.length : Int)) : L2.atI xs i = some (xs.getD i.toNat d) := by
  have hl : i.toNat < xs.length := by omega
  have e : L2.atI xs ((i.toNat : Nat) : Int) = some (xs.getD i.toNat d) := L2.atI_nat (by rw [List.getD_eq_getElem?_getD, List.getElem?_eq_getElem hl]; rfl)
  rw [Int.toNat_of_nonneg h0] at e
  exact e
/-- a list of ints at a place -/
theorem d_ixInts (ns : List Int) {x : Dv} {i : Int} (l : SqD μ x (ns.map Dv.int)) (h0 : 0 ≤ i) (h1 : i < (ns.length : Int)) (h : k (.int (ns.getD i.toNat 0)) μ) : DOp K (rIx K) x (.int i) μ k :=
  d_ixL l (d := .int (ns.getD i.toNat 0)) (by
    rw [at_getD (.int 0) h0 (by rw [List.length_map]; exact h1)]
    congr 1
    exact getD_mapF Dv.int ns i.toNat 0) h
/-- a list of anything at a place -/
theorem d_ixMap {α : Type} (f : α → Dv) (xs : List α) (z : α) {x : Dv} {i : Int} (l : SqD μ x (xs.map f)) (h0 : 0 ≤ i) (h1 : i < (xs.length : Int)) (h : k (f (xs.getD i.toNat z)) μ) : DOp K (rIx K) x (.int i) μ k :=
  d_ixL l (d := f (xs.getD i.toNat z)) (by
    rw [at_getD (f z) h0 (by rw [List.length_map]; exact h1)]
    congr 1
    exact getD_mapF f xs i.toNat z) h
end
end DL

/-! ## Data that == compares as Lean does -/
namespace DL
open PySem PySem.Spec L2
structure Enc (α : Type) [DecidableEq α] where
  dv : α → Dv
  py : α → PyData
  n : Nat
  toPy : ∀ x, DL.toPy (dv x) = some (py x)
  lay : ∀ x, (py x).canLay0 = true
  dep : ∀ x, (py x).depth ≤ n
  eqv : ∀ x y, PyData.eqv (py x) (py y) = decide (x = y)
theorem Enc.shaped {α : Type} [DecidableEq α] (E : Enc α) (h : E.n ≤ 64) (x : α) : SeqAt.shaped (E.py x) = true := by
  unfold SeqAt.shaped
  rw [E.lay x, decide_eq_true (Nat.le_trans (E.dep x) h)]
  rfl
def Enc.int : Enc Int := ⟨Dv.int, PyData.int, 0, fun _ => by unfold DL.toPy; rfl, fun _ => by unfold PyData.canLay0; rfl, fun _ => by unfold PyData.depth; exact Nat.le_refl _, fun x y => by
  unfold PyData.eqv
  by_cases e : x = y
  · subst e; simp
  · rw [decide_eq_false e]; simpa using e⟩
theorem depthAll_le {xs : List PyData} {n : Nat} (h : ∀ x ∈ xs, x.depth ≤ n) : PyData.depthAll xs ≤ n := by
  induction xs with
  | nil => unfold PyData.depthAll; omega
  | cons x r ih =>
    unfold PyData.depthAll
    have h1 := h x List.mem_cons_self
    have h2 := ih fun y hy => h y (List.mem_cons_of_mem _ hy)
    omega
theorem layAll_of {xs : List PyData} (h : ∀ x ∈ xs, x.canLay0 = true) : PyData.canLayAll0 xs = true := by
  induction xs with
  | nil => unfold PyData.canLayAll0; rfl
  | cons x r ih =>
    unfold PyData.canLayAll0
    rw [h x List.mem_cons_self, ih fun y hy => h y (List.mem_cons_of_mem _ hy)]
    rfl
def Enc.pair {α β : Type} [DecidableEq α] [DecidableEq β] (E : Enc α) (G : Enc β) : Enc (α × β) where
  dv p := .tup [E.dv p.1, G.dv p.2]
  py p := .tuple [E.py p.1, G.py p.2]
  n := max E.n G.n + 1
  toPy p := by unfold DL.toPy DL.toPys; rw [E.toPy]; unfold DL.toPys; rw [G.toPy]; unfold DL.toPys; rfl
  lay p := by unfold PyData.canLay0; exact layAll_of (by intro x hx; rcases List.mem_cons.mp hx with rfl | hx; exact E.lay _; rcases List.mem_cons.mp hx with rfl | hx; exact G.lay _; cases hx)
  dep p := by
    unfold PyData.depth
    have : PyData.depthAll [E.py p.1, G.py p.2] ≤ max E.n G.n := depthAll_le (by
      intro x hx
      rcases List.mem_cons.mp hx with rfl | hx
      · exact Nat.le_trans (E.dep _) (Nat.le_max_left _ _)
      rcases List.mem_cons.mp hx with rfl | hx
      · exact Nat.le_trans (G.dep _) (Nat.le_max_right _ _)
      cases hx)
    omega
  eqv p q := by
    unfold PyData.eqv PyData.eqvAll PyData.eqvAll PyData.eqvAll
    rw [E.eqv, G.eqv]
    obtain ⟨a, b⟩ := p
    obtain ⟨c, d⟩ := q
    by_cases h1 : a = c
    · by_cases h2 : b = d
      · simp [h1, h2]
      · simp [h1, h2]
    · simp [h1]
theorem toPys_map {α : Type} [DecidableEq α] (E : Enc α) (xs : List α) : DL.toPys (xs.map E.dv) = some (xs.map E.py) := by
  induction xs with
  | nil => rw [List.map_nil]; unfold DL.toPys; rfl
  | cons x r ih => rw [List.map_cons]; unfold DL.toPys; rw [E.toPy, ih]; rfl
theorem eqvAll_map {α : Type} [DecidableEq α] (E : Enc α) : ∀ xs ys : List α, PyData.eqvAll (xs.map E.py) (ys.map E.py) = decide (xs = ys)
  | [], [] => by rw [List.map_nil]; unfold PyData.eqvAll; rfl
  | [], y :: ys => by rw [List.map_nil, List.map_cons]; unfold PyData.eqvAll; rfl
  | x :: xs, [] => by rw [List.map_nil, List.map_cons]; unfold PyData.eqvAll; rfl
  | x :: xs, y :: ys => by
    rw [List.map_cons, List.map_cons]
    unfold PyData.eqvAll
    rw [E.eqv, eqvAll_map E xs ys]
    by_cases h1 : x = y
    · by_cases h2 : xs = ys
      · simp [h1, h2]
      · simp [h1, h2]
    · simp [h1]
def Enc.list {α : Type} [DecidableEq α] (E : Enc α) : Enc (List α) where
  dv xs := .lst (xs.map E.dv)
  py xs := .list (xs.map E.py)
  n := E.n + 1
  toPy xs := by unfold DL.toPy; rw [toPys_map]; rfl
  lay xs := by unfold PyData.canLay0; exact layAll_of (by intro x hx; obtain ⟨a, _, rfl⟩ := List.mem_map.mp hx; exact E.lay a)
  dep xs := by
    unfold PyData.depth
    have : PyData.depthAll (xs.map E.py) ≤ E.n := depthAll_le (by intro x hx; obtain ⟨a, _, rfl⟩ := List.mem_map.mp hx; exact E.dep a)
    omega
  eqv xs ys := by unfold PyData.eqv; exact eqvAll_map E xs ys
/-- the same of a list that nobody may change -/
def Enc.fro {α : Type} [DecidableEq α] (E : Enc α) : Enc (List α) where
  dv xs := .fro (xs.map E.dv)
  py xs := .list (xs.map E.py)
  n := E.n + 1
  toPy xs := by unfold DL.toPy; rw [toPys_map]; rfl
  lay := E.list.lay
  dep := E.list.dep
  eqv := E.list.eqv
section
variable {K : Kf} {μ : M} {k : DK}
theorem d_eqE {α : Type} [DecidableEq α] (E : Enc α) (hn : E.n ≤ 64) {x y : α} {d e : Dv} (hd : d = E.dv x := by rfl) (he : e = E.dv y := by rfl) (h : k (.bl (decide (x = y))) μ) : DOp K (rEqA K) d e μ k := by
  subst hd; subst he
  exact d_eqD (E.toPy x) (E.toPy y) (E.shaped hn x) (E.shaped hn y) (by rw [E.eqv]; exact h)
theorem d_neE {α : Type} [DecidableEq α] (E : Enc α) (hn : E.n ≤ 64) {x y : α} {d e : Dv} (hd : d = E.dv x := by rfl) (he : e = E.dv y := by rfl) (h : k (.bl (!decide (x = y))) μ) : DOp K (rNeA K) d e μ k := by
  subst hd; subst he
  exact d_neD (E.toPy x) (E.toPy y) (E.shaped hn x) (E.shaped hn y) (by rw [E.eqv]; exact h)
/-- against the empty list -/
theorem d_neNil {α : Type} [DecidableEq α] (E : Enc α) (hn : E.n + 1 ≤ 64) {d : Dv} (xs : List α) (l : d = .lst (xs.map E.dv) ∨ d = .fro (xs.map E.dv)) (h : k (.bl (!decide (xs = []))) μ) : DOp K (rNeA K) d (.lst []) μ k := by
  have e0 : DL.toPy (.lst []) = some (.list []) := by unfold DL.toPy DL.toPys; rfl
  have s0 : SeqAt.shaped (.list []) = true := by decide +kernel
  have e1 : DL.toPy d = some (E.list.py xs) := by
    rcases l with rfl | rfl
    · exact E.list.toPy xs
    · exact E.fro.toPy xs
  exact d_neD e1 e0 (E.list.shaped hn xs) s0 (by
    have := E.list.eqv xs []
    have e2 : E.list.py [] = .list [] := rfl
    rw [e2] at this
    rw [this]; exact h)
theorem d_eqNil {α : Type} [DecidableEq α] (E : Enc α) (hn : E.n + 1 ≤ 64) {d : Dv} (xs : List α) (l : d = .lst (xs.map E.dv) ∨ d = .fro (xs.map E.dv)) (h : k (.bl (decide (xs = []))) μ) : DOp K (rEqA K) d (.lst []) μ k := by
  have e0 : DL.toPy (.lst []) = some (.list []) := by unfold DL.toPy DL.toPys; rfl
  have s0 : SeqAt.shaped (.list []) = true := by decide +kernel
  have e1 : DL.toPy d = some (E.list.py xs) := by
    rcases l with rfl | rfl
    · exact E.list.toPy xs
    · exact E.fro.toPy xs
  exact d_eqD e1 e0 (E.list.shaped hn xs) s0 (by
    have := E.list.eqv xs []
    have e2 : E.list.py [] = .list [] := rfl
    rw [e2] at this
    rw [this]; exact h)
end
end DL
namespace DL
open PySem PySem.Spec L2
section
variable {X : Cx} {W : WX} {KE : XD} {e a b c : Expr} {n : En} {μ : M} {kb : Bool → M → Prop} {pos : Pos} {kl : Nat}
def kB (kb : Bool → M → Prop) : DK := fun z μ' => ∃ c, z = .bl c ∧ kb c μ'
theorem jt_cmp {op : CmpOp} {r : R2} (ho : OpR X (compareOp op) r) (hm : behindInMarks op b = false) (h : JE X W KE a n μ fun x μ1 => JE X W KE b n μ1 fun y μ2 => DOp X.K r x y μ2 (kB kb)) : JT X W KE (.Compare a [op] [b] pos) n μ kb :=
  jt_of (pt_cmpR ho peC peC hm) fun σ H Q ev rp t q => by
    refine h σ H _ ev rp t fun u x H1 μ1 h1 s1 r1 d1 => ?_
    refine h1 σ H1 _ (ev.step s1) r1 (t.step s1) fun v y H2 μ2 h2 s2 r2 d2 => ?_
    refine h2 u v H2 _ r2 (d1.step s2) d2 fun w d H3 μ3 h3 s3 r3 d3 => ?_
    obtain ⟨c, rfl, h4⟩ := h3
    cases d3
    exact ⟨c, rfl, q _ _ μ3 h4 ((s1.trans s2).trans s3) r3⟩
theorem jt_lt (h : JE X W KE a n μ fun x μ1 => JE X W KE b n μ1 fun y μ2 => DOp X.K (rI0 fun i j => V.bl (decide (i < j))) x y μ2 (kB kb)) : JT X W KE (.Compare a [.Lt] [b] pos) n μ kb := jt_cmp op_lt (nomark _) h
theorem jt_le (h : JE X W KE a n μ fun x μ1 => JE X W KE b n μ1 fun y μ2 => DOp X.K (rI0 fun i j => V.bl (decide (i ≤ j))) x y μ2 (kB kb)) : JT X W KE (.Compare a [.LtE] [b] pos) n μ kb := jt_cmp op_le (nomark _) h
theorem jt_gt (h : JE X W KE a n μ fun x μ1 => JE X W KE b n μ1 fun y μ2 => DOp X.K (rI0 fun i j => V.bl (decide (j < i))) x y μ2 (kB kb)) : JT X W KE (.Compare a [.Gt] [b] pos) n μ kb := jt_cmp op_gt (nomark _) h
theorem jt_ge (h : JE X W KE a n μ fun x μ1 => JE X W KE b n μ1 fun y μ2 => DOp X.K (rI0 fun i j => V.bl (decide (j ≤ i))) x y μ2 (kB kb)) : JT X W KE (.Compare a [.GtE] [b] pos) n μ kb := jt_cmp op_ge (nomark _) h
theorem jt_eq (c : Cok kl X W) (h : JE X W KE a n μ fun x μ1 => JE X W KE b n μ1 fun y μ2 => DOp X.K (rEqA X.K) x y μ2 (kB kb)) : JT X W KE (.Compare a [.Eq] [b] pos) n μ kb := jt_cmp (OpR.or op_eq (op_eqD c.room.units)) (nomark _) h
theorem jt_ne (c : Cok kl X W) (h : JE X W KE a n μ fun x μ1 => JE X W KE b n μ1 fun y μ2 => DOp X.K (rNeA X.K) x y μ2 (kB kb)) : JT X W KE (.Compare a [.NotEq] [b] pos) n μ kb := jt_cmp (OpR.or op_ne (op_neD c.room.units)) (nomark _) h
theorem jt_is (h : JE X W KE a n μ fun x μ1 => JE X W KE b n μ1 fun y μ2 => DOp X.K (fun x y H Q => y = .non ∧ Q (.bl (decide (x = .non))) H) x y μ2 (kB kb)) (hm : behindInMarks .Is b = false := by exact nomark _) : JT X W KE (.Compare a [.Is] [b] pos) n μ kb := jt_cmp op_isN hm h
theorem jt_isnot (h : JE X W KE a n μ fun x μ1 => JE X W KE b n μ1 fun y μ2 => DOp X.K (fun x y H Q => y = .non ∧ Q (.bl (!decide (x = .non))) H) x y μ2 (kB kb)) (hm : behindInMarks .IsNot b = false := by exact nomark _) : JT X W KE (.Compare a [.IsNot] [b] pos) n μ kb := jt_cmp op_notN hm h
theorem jt_chain {op op' : CmpOp} {r r' : R2} (ho : OpR X (compareOp op) r) (ho' : OpR X (compareOp op') r')
    (h : JE X W KE a n μ fun x μ1 => JE X W KE b n μ1 fun y μ2 => DOp X.K r x y μ2 fun z μ3 => ∃ b, z = .bl b ∧ (b = true → JE X W KE c n μ3 fun w μ4 => DOp X.K r' y w μ4 (kB kb)) ∧ (b = false → kb false μ3))
    (hm : lastMarks [op, op'] [b, c] = false := by with_unfolding_all rfl) : JT X W KE (.Compare a [op, op'] [b, c] pos) n μ kb :=
  jt_of (pt_chain ho ho' peC peC peC hm) fun σ H Q ev rp t q => by
    refine h σ H _ ev rp t fun u x H1 μ1 h1 s1 r1 d1 => ?_
    refine h1 σ H1 _ (ev.step s1) r1 (t.step s1) fun v y H2 μ2 h2 s2 r2 d2 => ?_
    refine h2 u v H2 _ r2 (d1.step s2) d2 fun z d3 H3 μ3 h3 s3 r3 d3' => ?_
    obtain ⟨b, rfl, ht, hf⟩ := h3
    cases d3'
    refine ⟨b, rfl, ?_⟩
    have s13 := (s1.trans s2).trans s3
    cases b with
    | true =>
      rw [if_pos rfl]
      refine ht rfl σ H3 _ (ev.step s13) r3 (t.step s13) fun w y4 H4 μ4 h4 s4 r4 d4 => ?_
      refine h4 v w H4 _ r4 (d2.step (s3.trans s4)) d4 fun w5 d5 H5 μ5 h5 s5 r5 d5' => ?_
      obtain ⟨c, rfl, h6⟩ := h5
      cases d5'
      exact ⟨c, rfl, q _ _ μ5 h6 ((s13.trans s4).trans s5) r5⟩
    | false =>
      rw [if_neg Bool.false_ne_true]
      exact ⟨false, rfl, q _ _ μ3 (hf rfl) s13 r3⟩
theorem d_lenM {α : Type} {f : α → Dv} {k : DK} {K : Kf} {x : Dv} {xs : List α} (l : SqD μ x (xs.map f)) (h : k (.int xs.length) μ) : DCl K (rLenA K) [x] μ k := d_lenL l (by rw [List.length_map]; exact h)
theorem je_frz {k : DK} {e : Expr} (h : JE X W KE e n μ fun d μ' => ∃ a xs, d = .obj a ∧ μ' a = some (.lst xs) ∧ k (.lst xs) (delM μ' a)) : JE X W KE e n μ k := fun σ H Q ev rp t q => by
  refine h σ H Q ev rp t fun v d H' μ' h1 s1 r1 d1 => ?_
  obtain ⟨a, xs, rfl, ha, hk⟩ := h1
  cases d1
  obtain ⟨vs, e1, rr⟩ := r1 _ _ ha
  exact q _ _ _ _ hk (s1.trans (Step.freeze ha)) (r1.freeze ha) (.lst e1 delM_same (rr.step (Step.freeze ha)))
theorem env_put {K : Kf} {μ : M} {H : Hp} {σ : L2.St} {n : En} {i : Nat} {v : V} {d : Dv} (ev : Env K μ H σ n) (hs : σ[i]? = some (some v)) (r : DRep K μ H v d) : Env K μ H σ (n.set i (some d)) := by
  refine ⟨by rw [List.length_set]; exact ev.1, fun j x q => ?_⟩
  by_cases z : i = j
  · subst z
    by_cases hl : i < n.length
    · rw [List.getElem?_set_self hl] at q
      cases q
      exact ⟨v, hs, r⟩
    · rw [List.getElem?_eq_none (by rw [List.length_set]; omega)] at q
      cases q
  · rw [List.getElem?_set_ne z] at q
    exact ev.2 j x q
theorem jb_freeze {sts : List Stmt} {P : Ed} (i : Nat) {a : Addr} {xs : List Dv} (hn : n[i]? = some (some (.obj a))) (ha : μ a = some (.lst xs)) (h : JB X W KE sts (n.set i (some (.lst xs))) (delM μ a) P) : JB X W KE sts n μ P := fun σ H D ev rp t q => by
  obtain ⟨v, hs, dv⟩ := ev.2 i _ hn
  cases dv
  obtain ⟨vs, e1, rr⟩ := rp _ _ ha
  refine h σ H D (env_put (ev.step (Step.freeze ha)) hs (.lst e1 delM_same (rr.step (Step.freeze ha)))) (rp.freeze ha) (t.step (Step.freeze ha)) (q.step (Step.freeze ha))
end
def cutG {α : Type} (xs : List α) (lo hi : Option Int) : List α := (xs.drop (HT.sIx xs.length 0 lo)).take (HT.sIx xs.length xs.length hi - HT.sIx xs.length 0 lo)
theorem cutD_map {α : Type} (f : α → Dv) (xs : List α) (lo hi : Option Int) : cutD (xs.map f) lo hi = (cutG xs lo hi).map f := by
  unfold cutD cutG
  rw [List.length_map, List.map_take, List.map_drop]
theorem cutG_len {α : Type} (xs : List α) (lo hi : Option Int) : (cutG xs lo hi).length ≤ xs.length := by
  unfold cutG
  rw [List.length_take, List.length_drop]
  omega
theorem cutG_mem {α : Type} {xs : List α} {lo hi : Option Int} {x : α} (h : x ∈ cutG xs lo hi) : x ∈ xs := List.mem_of_mem_drop (List.mem_of_mem_take h)
end DL

/-! ## more operators, more calls -/
namespace DL
open PySem PySem.Spec L2
section
variable {X : Cx}
theorem bl_beq (a b : Bool) : (Value.bool a == Value.bool b) = decide (a = b) := by cases a <;> cases b <;> rfl
def rIsB (neg : Bool) : R2 := fun x y H Q => ∃ a b, x = .bl a ∧ y = .bl b ∧ Q (.bl (if neg then !decide (a = b) else decide (a = b))) H
theorem op_isB : OpR X (compareOp .Is) (rIsB false) := by
  intro pins s σ H x y v u Q I rx ry h
  obtain ⟨a, b, rfl, rfl, q⟩ := h
  cases (show v = Value.bool a from rx)
  cases (show u = Value.bool b from ry)
  exact wpAny_is_plain rfl (fin_bl I q (bl_beq a b).symm)
theorem op_isnotB : OpR X (compareOp .IsNot) (rIsB true) := by
  intro pins s σ H x y v u Q I rx ry h
  obtain ⟨a, b, rfl, rfl, q⟩ := h
  cases (show v = Value.bool a from rx)
  cases (show u = Value.bool b from ry)
  exact wpAny_isNot_plain rfl (fin_bl I q (congrArg not (bl_beq a b).symm))
end
section
variable {X : Cx} {W : WX} {KE : XD} {e a b c : Expr} {n : En} {μ : M} {k : DK} {kb : Bool → M → Prop} {pos : Pos} {kl : Nat} {K : Kf}
theorem je_isB (h : JE X W KE a n μ fun x μ1 => JE X W KE b n μ1 fun y μ2 => DOp X.K (rIsB false) x y μ2 k) (hm : behindInMarks .Is b = false := by exact nomark _) : JE X W KE (.Compare a [.Is] [b] pos) n μ k := je_cmp op_isB hm h
theorem jt_isB (h : JE X W KE a n μ fun x μ1 => JE X W KE b n μ1 fun y μ2 => DOp X.K (rIsB false) x y μ2 (kB kb)) (hm : behindInMarks .Is b = false := by exact nomark _) : JT X W KE (.Compare a [.Is] [b] pos) n μ kb := jt_cmp op_isB hm h
theorem je_isnotB (h : JE X W KE a n μ fun x μ1 => JE X W KE b n μ1 fun y μ2 => DOp X.K (rIsB true) x y μ2 k) (hm : behindInMarks .IsNot b = false := by exact nomark _) : JE X W KE (.Compare a [.IsNot] [b] pos) n μ k := je_cmp op_isnotB hm h
theorem jt_isnotB (h : JE X W KE a n μ fun x μ1 => JE X W KE b n μ1 fun y μ2 => DOp X.K (rIsB true) x y μ2 (kB kb)) (hm : behindInMarks .IsNot b = false := by exact nomark _) : JT X W KE (.Compare a [.IsNot] [b] pos) n μ kb := jt_cmp op_isnotB hm h
theorem d_isB {p q : Bool} (h : k (.bl (decide (p = q))) μ) : DOp K (rIsB false) (.bl p) (.bl q) μ k := fun u v H Q r du dv t => by
  cases du; cases dv
  exact ⟨p, q, rfl, rfl, tl_pure t h r (.bl _)⟩
theorem d_isnotB {p q : Bool} (h : k (.bl (!decide (p = q))) μ) : DOp K (rIsB true) (.bl p) (.bl q) μ k := fun u v H Q r du dv t => by
  cases du; cases dv
  exact ⟨p, q, rfl, rfl, tl_pure t h r (.bl _)⟩
/-- x in l, x not in l: all data -/
theorem je_in (c : Cok kl X W) (h : JE X W KE a n μ fun x μ1 => JE X W KE b n μ1 fun y μ2 => DOp X.K (rInD X.K) x y μ2 k) (hm : behindInMarks .In b = false := by rfl) : JE X W KE (.Compare a [.In] [b] pos) n μ k := je_cmp (op_inD (by have := c.room.un; omega)) hm h
theorem jt_in (c : Cok kl X W) (h : JE X W KE a n μ fun x μ1 => JE X W KE b n μ1 fun y μ2 => DOp X.K (rInD X.K) x y μ2 (kB kb)) (hm : behindInMarks .In b = false := by rfl) : JT X W KE (.Compare a [.In] [b] pos) n μ kb := jt_cmp (op_inD (by have := c.room.un; omega)) hm h
theorem d_inD {x y : Dv} {p : PyData} {qs : List PyData} (hx : toPy x = some p) (hy : toPy y = some (.list qs)) (sp : SeqAt.shaped p = true) (sq : SeqAt.shaped (.list qs) = true) (h : k (.bl (qs.any fun z => PyData.eqv z p)) μ) : DOp K (rInD K) x y μ k := fun u v H Q r du dv t =>
  ⟨p, qs, du.dp hx, dv.dp hy, sp, sq, tl_pure t h r (.bl _)⟩
theorem any_eqvE {α : Type} [DecidableEq α] (E : Enc α) (x : α) : ∀ xs : List α, ((xs.map E.py).any fun z => PyData.eqv z (E.py x)) = decide (x ∈ xs)
  | [] => rfl
  | y :: ys => by
    rw [List.map_cons, List.any_cons, E.eqv, any_eqvE E x ys]
    by_cases h : y = x
    · subst h; simp
    · have : ¬ x = y := fun z => h z.symm
      simp [h, this]
theorem d_inE {α : Type} [DecidableEq α] (E : Enc α) (hn : E.n + 1 ≤ 64) {x : α} {xs : List α} {d e : Dv} (hd : d = E.dv x := by rfl) (he : e = .lst (xs.map E.dv) := by rfl) (h : k (.bl (decide (x ∈ xs))) μ) : DOp K (rInD K) d e μ k := by
  subst hd; subst he
  exact d_inD (E.toPy x) (E.list.toPy xs) (E.shaped (by omega) x) (E.list.shaped hn xs) (by rw [any_eqvE]; exact h)
end
/-- None or an encoded thing -/
def Enc.opt : Enc (Option Int) where
  dv o := match o with
    | none => .non
    | some i => .int i
  py o := match o with
    | none => .none
    | some i => .int i
  n := 0
  toPy o := by cases o <;> (unfold DL.toPy; rfl)
  lay o := by cases o <;> (unfold PyData.canLay0; rfl)
  dep o := by cases o <;> (unfold PyData.depth; exact Nat.le_refl _)
  eqv x y := by
    cases x with
    | none => cases y with
      | none => unfold PyData.eqv; rfl
      | some y => unfold PyData.eqv; rfl
    | some x => cases y with
      | none => unfold PyData.eqv; rfl
      | some y =>
        show PyData.eqv (.int x) (.int y) = _
        have := Enc.int.eqv x y
        rw [show Enc.int.py x = PyData.int x from rfl, show Enc.int.py y = PyData.int y from rfl] at this
        rw [this]; simp
end DL
namespace DL
open PySem PySem.Spec L2
section
variable {X : Cx} {scope : Scope} {ifs : List Expr} {elt : Expr} {i : Nat} {n : En} {k : DK}
/-- a comprehension over encoded things, that changes nothing -/
theorem lc_map {α : Type} (dv : α → Dv) (xs : List α) (g : α → Option Dv) {s : Src} {μ1 : M} (hs : s.items = xs.map dv) (hok : s.Ok μ1) (hl : xs.length < sizeLine)
    (h : ∀ (j : Nat) (x : α) (μ' : M), xs[j]? = some x → ExtM μ1 μ' → LcTurn X scope ifs elt ((n.set i none).set i (some (dv x))) μ' fun o μ3 => o = g x ∧ μ3 = μ') (hk : k (.lst (xs.filterMap g)) μ1) : LcAll X scope ifs elt i n k s μ1 := fun a ha => by
  have ex : ∀ acc, ExtM μ1 (updM μ1 a (.lst acc)) := fun acc b u e => by rw [updM_ne (ne_ofM e ha)]; exact e
  refine ⟨fun j acc μ' => acc = (xs.take j).filterMap g ∧ μ' = updM μ1 a (.lst acc), ⟨rfl, rfl⟩, ?_, ?_, ?_⟩
  · rintro j acc μ' ⟨rfl, rfl⟩
    refine ⟨hok.ext (ex _), updM_same, Nat.lt_of_le_of_lt (List.length_filterMap_le _ _) ?_⟩
    rw [List.length_take]; omega
  · rintro j x acc μ' hx ⟨rfl, rfl⟩
    rw [hs, List.getElem?_map] at hx
    cases hxx : xs[j]? with
    | none => rw [hxx] at hx; cases hx
    | some x0 =>
    rw [hxx] at hx
    cases hx
    have ht : (xs.take (j + 1)).filterMap g = (xs.take j).filterMap g ++ (match g x0 with | some y => [y] | none => []) := by
      rw [List.take_add_one, List.filterMap_append, hxx]
      cases e : g x0 with
      | none => simp [e]
      | some y => simp [e]
    intro s1 H1 C1 cl1 fp1
    have hT := h j x0 _ hxx (ex ((xs.take j).filterMap g)) s1 H1 C1 cl1 fp1
    have go : ∀ (b : Bool) (μ2 : M), ((b = true → ∀ (sS : Shared) (H : Hp) (C : Addr) (cl : List (Str × Addr)) (fp : List Addr), JE (X.blk sS H scope (compEnvC scope cl C X.env) fp) W0 KE0 elt ((n.set i none).set i (some (dv x0))) μ2 fun y μ3 => some y = g x0 ∧ μ3 = updM μ1 a (.lst ((xs.take j).filterMap g))) ∧ (b = false → none = g x0 ∧ μ2 = updM μ1 a (.lst ((xs.take j).filterMap g)))) →
        ((b = true → ∀ (sS : Shared) (H : Hp) (C : Addr) (cl : List (Str × Addr)) (fp : List Addr), JE (X.blk sS H scope (compEnvC scope cl C X.env) fp) W0 KE0 elt ((n.set i none).set i (some (dv x0))) μ2 fun y μ3 => μ3 a = some (.lst ((xs.take j).filterMap g)) ∧ ((xs.take j).filterMap g ++ [y] = (xs.take (j + 1)).filterMap g ∧ updM μ3 a (.lst ((xs.take j).filterMap g ++ [y])) = updM μ1 a (.lst ((xs.take j).filterMap g ++ [y])))) ∧ (b = false → (xs.take j).filterMap g = (xs.take (j + 1)).filterMap g ∧ μ2 = updM μ1 a (.lst ((xs.take j).filterMap g)))) := fun b μ2 z => ⟨fun hb sS H C cl fp => (z.1 hb sS H C cl fp).mono fun y μ3 ⟨z1, z2⟩ => by
          subst z2
          exact ⟨updM_same, by rw [ht, ← z1], updM_updM⟩, fun hb => by
          obtain ⟨z1, z2⟩ := z.2 hb
          exact ⟨by rw [ht, ← z1, List.append_nil], z2⟩⟩
    match ifs, hT with
    | [], hT => exact go _ _ hT
    | [c], hT => exact JT.mono hT fun b μ2 z => go _ _ z
  · rintro acc μ' ⟨rfl, rfl⟩
    rw [hs, List.length_map, List.take_length]
    exact .inl (by rw [delM_updM ha]; exact hk)
end
end DL
namespace DL
open PySem PySem.Spec L2
section
variable {X : Cx} {W : WX} {KE : XD} {a b c e : Expr} {rest : List Expr} {n : En} {μ : M} {k : DK} {kb : Bool → M → Prop} {pos : Pos}
theorem JW.mono {kb kb' : Bool → M → Prop} (h : JW X W KE e n μ kb) (m : ∀ b μ', kb b μ' → kb' b μ') : JW X W KE e n μ kb' := fun σ H Q ev rp t q => h σ H Q ev rp t fun b H' μ' hk s r => q b H' μ' (m b μ' hk) s r
/-- tests that change nothing, told by their values -/
theorem jw_andP (v1 v2 : Bool) (h1 : JT X W KE a n μ fun c μ' => c = v1 ∧ μ' = μ) (h2 : v1 = true → JW X W KE (.BoolOp .And (b :: rest) pos) n μ fun c μ' => c = v2 ∧ μ' = μ) (hk : kb (v1 && v2) μ) : JW X W KE (.BoolOp .And (a :: b :: rest) pos) n μ kb :=
  jw_and (h1.mono fun c μ' ⟨e1, e2⟩ => by
    subst e1; subst e2
    refine ⟨fun z => (h2 z).mono fun d μ2 ⟨e3, e4⟩ => ?_, fun z => ?_⟩
    · subst e3; subst e4; rw [z] at hk; exact hk
    · rw [z] at hk; exact hk)
theorem jw_orP (v1 v2 : Bool) (h1 : JT X W KE a n μ fun c μ' => c = v1 ∧ μ' = μ) (h2 : v1 = false → JW X W KE (.BoolOp .Or (b :: rest) pos) n μ fun c μ' => c = v2 ∧ μ' = μ) (hk : kb (v1 || v2) μ) : JW X W KE (.BoolOp .Or (a :: b :: rest) pos) n μ kb :=
  jw_or (h1.mono fun c μ' ⟨e1, e2⟩ => by
    subst e1; subst e2
    refine ⟨fun z => ?_, fun z => (h2 z).mono fun d μ2 ⟨e3, e4⟩ => ?_⟩
    · rw [z] at hk; exact hk
    · subst e3; subst e4; rw [z] at hk; exact hk)
theorem je_andP (v1 v2 : Bool) (h1 : JE X W KE a n μ fun d μ' => d = .bl v1 ∧ μ' = μ) (h2 : v1 = true → JE X W KE (.BoolOp .And (b :: rest) pos) n μ fun d μ' => d = .bl v2 ∧ μ' = μ) (hk : k (.bl (v1 && v2)) μ) : JE X W KE (.BoolOp .And (a :: b :: rest) pos) n μ k :=
  je_and (h1.mono fun d μ' ⟨e1, e2⟩ => by
    subst e1; subst e2
    refine ⟨v1, rfl, fun z => (h2 z).mono fun d μ2 ⟨e3, e4⟩ => ?_, fun z => ?_⟩
    · subst e3; subst e4; rw [z] at hk; exact hk
    · rw [z] at hk; exact hk)
theorem je_orP (v1 v2 : Bool) (h1 : JE X W KE a n μ fun d μ' => d = .bl v1 ∧ μ' = μ) (h2 : v1 = false → JE X W KE (.BoolOp .Or (b :: rest) pos) n μ fun d μ' => d = .bl v2 ∧ μ' = μ) (hk : k (.bl (v1 || v2)) μ) : JE X W KE (.BoolOp .Or (a :: b :: rest) pos) n μ k :=
  je_or (h1.mono fun d μ' ⟨e1, e2⟩ => by
    subst e1; subst e2
    refine ⟨v1, rfl, fun z => ?_, fun z => (h2 z).mono fun d μ2 ⟨e3, e4⟩ => ?_⟩
    · rw [z] at hk; exact hk
    · subst e3; subst e4; rw [z] at hk; exact hk)
theorem je_one' {op : BoolOp} (h : JE X W KE a n μ k) : JE X W KE (.BoolOp op [a] pos) n μ k := je_one h
end
end DL
namespace DL
open PySem PySem.Spec L2
section
variable {X : Cx} {W : WX} {KE : XD} {a b c e : Expr} {rest : List Expr} {n : En} {μ : M} {k : DK} {kb : Bool → M → Prop} {pos : Pos} {K : Kf}
theorem DOp.mono {r : R2} {x y : Dv} {k k' : DK} (h : DOp K r x y μ k) (m : ∀ d μ', k d μ' → k' d μ') : DOp K r x y μ k' := fun u v H Q rp du dv t => h u v H Q rp du dv fun w d H' μ' hk => t w d H' μ' (m d μ' hk)
theorem je_chainP {op op' : CmpOp} {r r' : R2} (ho : OpR X (compareOp op) r) (ho' : OpR X (compareOp op') r') (v1 v2 : Bool) (hm : lastMarks [op, op'] [b, c] = false)
    (h : JE X W KE a n μ fun x μ1 => JE X W KE b n μ1 fun y μ2 => DOp X.K r x y μ2 fun z μ3 => (z = .bl v1 ∧ μ3 = μ) ∧ (v1 = true → JE X W KE c n μ3 fun w μ4 => DOp X.K r' y w μ4 fun z' μ5 => z' = .bl v2 ∧ μ5 = μ))
    (hk : k (.bl (v1 && v2)) μ) : JE X W KE (.Compare a [op, op'] [b, c] pos) n μ k :=
  je_chain ho ho' (h.mono fun x μ1 h1 => h1.mono fun y μ2 h2 => h2.mono fun z μ3 ⟨⟨e1, e2⟩, h3⟩ => by
    subst e1; subst e2
    refine ⟨v1, rfl, fun z => (h3 z).mono fun w μ4 h4 => h4.mono fun z' μ5 ⟨e3, e4⟩ => ?_, fun z => ?_⟩
    · subst e3; subst e4; rw [z] at hk; exact hk
    · rw [z] at hk; exact hk) hm
theorem jt_chainP {op op' : CmpOp} {r r' : R2} (ho : OpR X (compareOp op) r) (ho' : OpR X (compareOp op') r') (v1 v2 : Bool) (hm : lastMarks [op, op'] [b, c] = false)
    (h : JE X W KE a n μ fun x μ1 => JE X W KE b n μ1 fun y μ2 => DOp X.K r x y μ2 fun z μ3 => (z = .bl v1 ∧ μ3 = μ) ∧ (v1 = true → JE X W KE c n μ3 fun w μ4 => DOp X.K r' y w μ4 fun z' μ5 => z' = .bl v2 ∧ μ5 = μ))
    (hk : kb (v1 && v2) μ) : JT X W KE (.Compare a [op, op'] [b, c] pos) n μ kb :=
  jt_chain ho ho' (h.mono fun x μ1 h1 => h1.mono fun y μ2 h2 => h2.mono fun z μ3 ⟨⟨e1, e2⟩, h3⟩ => by
    subst e1; subst e2
    refine ⟨v1, rfl, fun z => (h3 z).mono fun w μ4 h4 => h4.mono fun z' μ5 ⟨e3, e4⟩ => ?_, fun z => ?_⟩
    · subst e3; subst e4; exact ⟨_, rfl, by rw [z] at hk; exact hk⟩
    · rw [z] at hk; exact hk) hm
theorem SqD.ext {μ' : M} {d : Dv} {xs : List Dv} (l : SqD μ d xs) (e : ExtM μ μ') : SqD μ' d xs := by
  cases l with
  | lst => exact .lst _
  | fro => exact .fro _
  | obj h => exact .obj (e _ _ h)
/-- a list, mutable or not, as data -/
theorem SqD.dp {H : Hp} {v : V} {d : Dv} {xs : List Dv} {qs : List PyData} (l : SqD μ d xs) (r : Rep K μ H) (q : DRep K μ H v d) (e : toPys xs = some qs) : Dp K H v (.list qs) := by
  cases l with
  | lst => exact q.dp (by unfold DL.toPy; rw [e]; rfl)
  | fro => exact q.dp (by unfold DL.toPy; rw [e]; rfl)
  | obj h => exact q.thaw r h e
theorem d_eqSS {x y : Dv} {xs ys : List Dv} {ps qs : List PyData} (lx : SqD μ x xs) (ly : SqD μ y ys) (hx : toPys xs = some ps) (hy : toPys ys = some qs) (sp : SeqAt.shaped (.list ps) = true) (sq : SeqAt.shaped (.list qs) = true) (h : k (.bl (PyData.eqv (.list ps) (.list qs))) μ) : DOp K (rEqA K) x y μ k := fun u v H Q r du dv t =>
  .inr ⟨_, _, lx.dp r du hx, ly.dp r dv hy, sp, sq, tl_pure t h r (.bl _)⟩
theorem d_neSS {x y : Dv} {xs ys : List Dv} {ps qs : List PyData} (lx : SqD μ x xs) (ly : SqD μ y ys) (hx : toPys xs = some ps) (hy : toPys ys = some qs) (sp : SeqAt.shaped (.list ps) = true) (sq : SeqAt.shaped (.list qs) = true) (h : k (.bl (!PyData.eqv (.list ps) (.list qs))) μ) : DOp K (rNeA K) x y μ k := fun u v H Q r du dv t =>
  .inr ⟨_, _, lx.dp r du hx, ly.dp r dv hy, sp, sq, tl_pure t h r (.bl _)⟩
/-- two lists of encoded things -/
theorem d_eqSE {α : Type} [DecidableEq α] (E : Enc α) (hn : E.n + 1 ≤ 64) {x y : Dv} {xs ys : List α} (lx : SqD μ x (xs.map E.dv)) (ly : SqD μ y (ys.map E.dv)) (h : k (.bl (decide (xs = ys))) μ) : DOp K (rEqA K) x y μ k :=
  d_eqSS lx ly (toPys_map E xs) (toPys_map E ys) (E.list.shaped hn xs) (E.list.shaped hn ys) (by rw [show PyData.eqv (.list (xs.map E.py)) (.list (ys.map E.py)) = decide (xs = ys) from E.list.eqv xs ys]; exact h)
theorem d_neSE {α : Type} [DecidableEq α] (E : Enc α) (hn : E.n + 1 ≤ 64) {x y : Dv} {xs ys : List α} (lx : SqD μ x (xs.map E.dv)) (ly : SqD μ y (ys.map E.dv)) (h : k (.bl (!decide (xs = ys))) μ) : DOp K (rNeA K) x y μ k :=
  d_neSS lx ly (toPys_map E xs) (toPys_map E ys) (E.list.shaped hn xs) (E.list.shaped hn ys) (by rw [show PyData.eqv (.list (xs.map E.py)) (.list (ys.map E.py)) = decide (xs = ys) from E.list.eqv xs ys]; exact h)
/-- the last one of a list -/
theorem d_ixLast {α : Type} (f : α → Dv) {x : Dv} {xs : List α} {p : α} (l : SqD μ x (xs.map f)) (hp : xs.getLast? = some p) (h : k (f p) μ) : DOp K (rIx K) x (.int (-1)) μ k :=
  d_ixL l (d := f p) (by
    have hne : xs ≠ [] := by intro z; subst z; cases hp
    have hl : 0 < xs.length := List.length_pos_iff.mpr hne
    rw [List.getLast?_eq_getElem?] at hp
    unfold L2.atI L2.ixN
    rw [List.length_map, if_neg (by omega)]
    rw [show (if -(xs.length : Int) ≤ -1 then some (-1 + (xs.length : Int)).toNat else none) = some (xs.length - 1) by rw [if_pos (by omega)]; congr 1; omega]
    show (xs.map f)[xs.length - 1]? = _
    rw [List.getElem?_map, hp]
    rfl) h
end
end DL
namespace DL
open PySem PySem.Spec L2
theorem d_powE {K : Kf} {μ : M} {k : DK} {i j v : Int} (hc : CPow i j) (e : i ^ j.toNat = v) (h : k (.int v) μ) : DOp K (rI CPow fun i j => V.int (i ^ j.toNat)) (.int i) (.int j) μ k := d_powI hc (by rw [e]; exact h)
end DL

/-! ## Exceptions as data -/
namespace DL
open PySem PySem.Spec L2
section
variable {X : Cx} {pins : List (Addr × Obj)} {σ : L2.St} {H : Hp} {s : Shared}
/-- an object of ours that was not tracked is tracked from now on -/
theorem inv_adopt {z : Addr} {u : HO} (I : Inv X pins σ H s) (n0 : X.s_0.heap.get? z = none) (nz : H z = none) (nL : X.env.locals ≠ z) (nC : ∀ x c, X.env.cells.lookup x = some c → c ≠ z) (nP : ∀ p ∈ X.pn ++ pins, p.1 ≠ z)
    (new : ObjOk X.prog X.w (upd H z u) s.heap z u) : Inv X pins σ (upd H z u) s where
  ok := I.ok
  os := I.os
  bare := I.bare
  base := ⟨I.base.keep, I.base.slot, fun b o e n hb => by
      have hz : b ≠ z := fun q => by rw [q, n0] at e; cases e
      rw [upd_ne hz]
      exact I.base.free b o e n hb, I.base.there, fun b xs e => by
      have q := I.base.tups b xs e
      rw [upd_ne (ne_of_none q nz)]
      exact q, fun b o w e => by
      have q := I.base.frzs b o w e
      rw [upd_ne (ne_of_none q nz)]
      exact q, fun b ps e => by
      obtain ⟨m, q⟩ := I.base.tbls b ps e
      exact ⟨m, by rw [upd_ne (ne_of_none q nz)]; exact q⟩⟩
  loc := I.loc
  cell := I.cell
  free := by rw [upd_ne nL]; exact I.free
  freeC := fun x c e => by rw [upd_ne (nC x c e)]; exact I.freeC x c e
  pin := fun p hp => by
    obtain ⟨e, n, q⟩ := I.pin p hp
    exact ⟨e, by rw [upd_ne (nP p hp)]; exact n, q⟩
  hok := HOk.laidN I.hok (fun _ _ e => e) nz new
  len := I.len
/-- the context of an except suite whose exception is tracked -/
abbrev suiteK (X : Cx) (z : Addr) (pn : List (Addr × Obj)) : Cx := { X with A := X.A.mark (some (.ref z)), calm := false, pn := pn, xe := fun _ _ => False }
theorem inv_suiteK {z : Addr} (I : Inv X pins σ H s) : Inv (suiteK X z (X.pn ++ pins)) [] σ H s :=
  ⟨Cx.Ok.suite I.ok z _, I.os, I.bare, I.base, I.loc, I.cell, I.free, I.freeC, fun p hp => I.pin p (by rw [List.append_nil] at hp; exact hp), I.hok, I.len⟩
theorem inv_offK {z : Addr} {pq : List (Addr × Obj)} (I : Inv (suiteK X z (X.pn ++ pins)) pq σ H s) (ok : X.Ok) : Inv X pins σ H s :=
  ⟨ok, I.os, I.bare, I.base, I.loc, I.cell, I.free, I.freeC, fun p hp => I.pin p (List.mem_append_left _ hp), I.hok, I.len⟩
theorem exD_ok {P : Program} {w : World} {h : Heap} {z : Addr} {cl : Value} {d : Option Addr} {oe : Obj} {vs : Array Value} (e : h.get? z = some oe) (q : Zc cl d oe) (f : oe.data = .fields vs) : ObjOk P w (upd H z (ExD cl d z)) h z (ExD cl d z) :=
  ⟨⟨oe, vs, e, q, f⟩, ⟨oe, e⟩, fun _ _ ⟨o, v, q, r⟩ k => ⟨o, v, k o q, r⟩⟩
end
/-- what the clause 'except x as n' wishes, the exception kept as a tracked thing -/
def wKeep (K : Kf) (cv : Value) (i : Nat) (ts : TS) (Wout : WX) (D : Ends) : WX := fun cl d σ H =>
  ∃ b, PySem.W.exmOne K cl cv = some b ∧
    (b = true → ∀ z, H z = none → ts ⟨fun σ1 H1 => D.nx (σ1.set i none) H1, D.rt, fun σ1 H1 => D.bk (σ1.set i none) H1, fun σ1 H1 => D.ct (σ1.set i none) H1⟩ (σ.set i (some (.ref z))) (upd H z (ExD cl d z))) ∧
    (b = false → Wout cl d σ H)
section
variable {X : Cx} {x n : Str} {cv : Value} {i : Nat} {body suite : List Stmt} {b₀ : Stmt} {np pos pos' : Pos} {tb : WX → TS} {ts : TS} {Wout : WX}
/-- try: body; except x as n: suite -/
theorem ps_try_keep (hs : X.stack = X.env :: X.outer) (hf : X.env.frame = some X.env.locals) (hx : X.ex = []) (hN : X.N.Nodup) (hi : X.N[i]? = some n)
    (hln : X.env.kindOf n = some .local) (hc : Names X x cv) (tk : Takes X Wout)
    (hb : ∀ (W1 : WX) (pq : List (Addr × Obj)) (xe : Value → Shared → Prop), Takes (X.tr pq xe) W1 →
      PassesOwn (model X.prog X.w) X.A X.env xe → PSs (X.tr pq xe) body (tb W1))
    (hsu : ∀ (z : Addr) (pq : List (Addr × Obj)), PSs (suiteK X z pq) (b₀ :: suite) ts) :
    PS X (.Try body [.ExceptHandler (some (.Name x np)) (some n) (b₀ :: suite) pos'] [] [] pos)
      (fun D σ H => tb (wKeep X.K cv i ts Wout D) D σ H) := by
  refine ⟨fun pins s σ H D I h => wpAny_Try_except ?_⟩
  have okX := I.ok
  have hframes : X.A.frames = some (X.env :: X.outer) := by rw [okX.frames, hs]
  have locn : Loc X.env.scope n := .inl hln
  have body1 := hb (wKeep X.K cv i ts Wout D) (X.pn ++ pins)
    (fun ev q1 => wpAny (model X.prog X.w) X.A (noteFrame ev X.env) (fun _ q2 =>
      wpAny (model X.prog X.w) X.A (setFlight ev none) (fun _ q3 =>
        wpAny (model X.prog X.w) X.A (handleBy ev X.env [.ExceptHandler (some (.Name x np)) (some n) (b₀ :: suite) pos'])
          (SP X pins D) X.xe q3) X.xe q2) X.xe q1) ?land PassesOwn.looking
  case land =>
    intro ev q0 air
    obtain ⟨z, G, sB, pq, σ1, H1, cl, d, rfl, Jt, below, ups, sky, nz, hos, gens, b, hexm, yes, no⟩ := air
    have Jx : Inv X pins σ1 H1 sB := Jt.ofTry okX
    have skyX : Sky G (X.env :: X.outer) z (Zc cl d) X.env.locals q0.heap := by rw [← hs]; exact sky
    show wpAny (model X.prog X.w) X.A (noteFrame (.ref z) X.env) _ _ _
    refine Sky.land Zc.steady hframes hf skyX fun hp1 fly1 upA => ?_
    have I1 : Inv X pins σ1 H1 { q0 with heap := hp1 } := Jx.landed below fly1.1 (ups.trans upA) hos gens
    obtain ⟨o1, w1, ge1, zc1, dat1⟩ := fly1.there
    have off : z ∉ frs (X.env :: X.outer) := fun hm => by
      obtain ⟨_, o', e', hnf⟩ := fly1.2.2.1.mem hm
      rw [ge1] at e'
      cases e'
      exact hnf _ dat1
    have offL : z ≠ X.env.locals := fun q => off (List.mem_filterMap.mpr ⟨X.env, List.mem_cons_self, by rw [hf, q]⟩)
    have offF : z ∉ X.fs := fun hm => by
      obtain ⟨e, he, q⟩ := List.mem_filterMap.mp hm
      exact off (List.mem_filterMap.mpr ⟨e, List.mem_cons_of_mem _ he, q⟩)
    have suite1 := I1.suite ge1 dat1 nz offL offF
    have newB : sB.heap.get? z = none := by
      cases q : sB.heap.get? z with
      | none => rfl
      | some o =>
        have := below z o q (by rw [hs]; exact off)
        rw [fly1.2.1] at this
        cases this
    have new0 : X.s_0.heap.get? z = none := by
      cases q : X.s_0.heap.get? z with
      | none => rfl
      | some o =>
        obtain ⟨o', e⟩ := Jx.base.there z o q (by rw [hx]; exact fun y => nomatch y)
        rw [newB] at e
        cases e
    refine wpAny_handleBy_cons (codeAny_handlers_test ?_) (by intro q; cases q)
    have looks1 : PySem.W.Looks (model X.prog X.w) hp1 (typeOf (.ref z)) cl := fun A Q E r k q => wpAny_typeOf_ref (k _ _ ge1) (by rw [zc1.1]; exact q)
    have hit := PySem.W.exm_one (M := model X.prog X.w) (I1.kIn) looks1 hexm
    have named : ∀ {Q : Value → Shared → Prop} {E : Value → Shared → Prop}, Q cv { q0 with heap := hp1 } →
        wpAny (model X.prog X.w) (X.A.mark (some (.ref z))) (eval (.Name x np) X.env) Q E { q0 with heap := hp1 } := fun {Q E} q => by
      obtain ⟨hg, hdbg, hm | ⟨hm, hv, hnn⟩⟩ := hc
      · exact ld_glob (X := X.suite z ((z, o1) :: (X.pn ++ pins))) suite1 hg hm q hdbg
      · exact ld_blt (X := X.suite z ((z, o1) :: (X.pn ++ pins))) suite1 hg hm hv q hnn hdbg
    refine named (hit.here ?_)
    cases b with
    | true =>
      refine codeAny_handlers_suite_as (HandSPX.lands_againZ fly1 fun hp2 fly2 upB => ?_)
      have I2 : Inv X pins σ1 H1 { q0 with heap := hp2 } := Jx.landed below fly2.1 ((ups.trans upA).trans upB) hos gens
      obtain ⟨o2, w2, ge2, zc2, dat2⟩ := fly2.there
      have I3 : Inv X pins σ1 (upd H1 z (ExD cl d z)) { q0 with heap := hp2 } := inv_adopt I2 new0 nz (Ne.symm offL)
        (fun y c e q => by
          obtain ⟨v, oc, hoc, hd⟩ := I2.cell y c e
          rw [q, ge2] at hoc
          cases hoc
          rw [dat2] at hd
          cases hd)
        (fun p hp q => by
          have := (Jx.pin p hp).1
          rw [q, newB] at this
          cases this)
        (exD_ok ge2 zc2 dat2)
      refine store_ok (X := suiteK X z (X.pn ++ pins)) (v := .ref z) (inv_suiteK I3) hN hi locn rfl (fun r5 S5 => ?_) (.inr hln)
      refine wpAny_mono ((hsu z (X.pn ++ pins)).run [] r5 _ _ _ S5 (yes rfl z nz)) (fun f r6 hsp => ?_) (fun _ _ y => False.elim y)
      have gone : ∀ {σ6 : L2.St} {H6 : Hp} {Q : Shared → Prop}, Inv (suiteK X z (X.pn ++ pins)) [] σ6 H6 r6 → (∀ r7, Inv X pins (σ6.set i none) H6 r7 → Q r7) →
          wpAny (model X.prog X.w) X.A (do bindName X.env n .none; unbindBehindTheSuite X.env n pos') (fun _ r7 => Q r7) X.xe r6 :=
        fun {σ6 H6 Q} S6 hq => gone_ok (inv_offK S6 okX) hN hi hln hq
      cases f with
      | next =>
        obtain ⟨σ6, H6, S6, w6⟩ := hsp
        exact gone S6 fun r7 J7 => ⟨_, _, J7, w6⟩
      | brk =>
        obtain ⟨σ6, H6, S6, w6⟩ := hsp
        exact gone S6 fun r7 J7 => ⟨_, _, J7, w6⟩
      | cont =>
        obtain ⟨σ6, H6, S6, w6⟩ := hsp
        exact gone S6 fun r7 J7 => ⟨_, _, J7, w6⟩
      | ret u =>
        obtain ⟨v6, σ6, H6, S6, r6', w6⟩ := hsp
        exact gone S6 fun r7 J7 => ⟨_, _, _, J7, r6', w6⟩
    | false =>
      show wpAny _ X.A (handleBy (.ref z) X.env []) _ _ _
      refine wpAny_handleBy_nil ?_
      obtain ⟨k1, k2, k3, oe, vs, T, oT, us, he, hz, hd, h1, hr⟩ := id fly1
      unfold PySem.passOn
      refine wpAny_bind (wpAny_field he hd h1 ?_)
      rw [if_neg (show ¬ ((Value.ref T == Value.none) = true) from by simp)]
      have fin : wpAny (model X.prog X.w) X.A (setFlight (.ref z) X.env.frame)
          (fun _ r4 => wpAny (model X.prog X.w) X.A (throw (.ref z) : Sem Flow) (SP X pins D) X.xe r4) X.xe { q0 with heap := hp1 } := by
        rw [hf]
        refine HandSPX.setFlight_upZ fly1 fun hp4 held upC => wpAny_throw (tk _ _ ?_)
        exact ⟨z, G, sB, pins, σ1, H1, cl, d, rfl, Jx, below, (ups.trans upA).trans upC, .inr (.inr (by rw [hs]; exact held)), nz, hos, gens, no rfl⟩
      first
        | exact wpAny_bind (wpAny_pure (wpAny_bind fin))
        | exact wpAny_bind fin
  refine wpAny_mono (body1.run [] s σ H D (I.toTry _) h) (fun f r1 hsp => ?_) (fun ev r1 he => he)
  cases f with
  | next =>
    obtain ⟨σ1, H1, J1, q⟩ := hsp
    exact wpAny_execs_nil ⟨σ1, H1, J1.ofTry okX, q⟩
  | brk =>
    obtain ⟨σ1, H1, J1, q⟩ := hsp
    exact ⟨σ1, H1, J1.ofTry okX, q⟩
  | cont =>
    obtain ⟨σ1, H1, J1, q⟩ := hsp
    exact ⟨σ1, H1, J1.ofTry okX, q⟩
  | ret u =>
    obtain ⟨v, σ1, H1, J1, r, q⟩ := hsp
    exact ⟨v, σ1, H1, J1.ofTry okX, r, q⟩
end
end DL

namespace DL
open PySem PySem.Spec L2
section
variable {X : Cx} {W : WX} {KE : XD} {e : Expr} {sts body suite : List Stmt} {n : En} {μ : M} {k : DK} {P : Ed} {pos pos' p p2 np : Pos} {x m y : Str} {K : Kf} {kl j i : Nat} {b₀ : Stmt}
/-- an own exception class, below ValueError, without its own __init__ -/
structure Xc (K : Kf) (mg : Str → Option Value) (x : Str) (C : Addr) : Prop where
  q : PySem.W.excIn K C [.type "ValueError", .type "Exception", .type "BaseException", .type "object"] "ValueError.__new__" = true
  g : mg x = some (.ref C)
  k : PySem.W.keepIn K (.ref C) = true
  r1 : PySem.W.subIn K (.ref C) (.type "BaseException") = some true
  r2 : PySem.W.typeIn K (.ref C) = some (.type "type")
theorem js_raise {C : Addr} (c : Cok kl X W) (F : Xc X.K X.mg x C) (h : KE (.ref C) [] n μ) (hg : Gl X x := by rfl) (hdb : (x == ("__debug__" : Str)) = false := by decide) : JS X W KE (.Raise (some (.Call (.Name x p) [.Constant (.str m) j p2] [] pos)) none pos') n μ P :=
  js_of (ps_raise c.calm c.tk (pmk_own PySem.F.excBase_ValueError F.q F.g F.k (raises_own F.r1 F.r2) hg hdb)) fun σ H D ev rp t q =>
    t (.ref C) [] none σ n H μ h ev (Step.refl _ _) rp rfl
theorem js_setN (i : Nat) (nd : X.N.Nodup) (hi : X.N[i]? = some x) (h : JE X W KE e n μ fun d μ' => P.nx (n.set i (some d)) μ') (hx : Loc X.env.scope x := by first | exact Or.inl rfl | exact Or.inr rfl)
    (hs : swapsWith e (some (.Name x pos')) pos.line X.env = pure false := by rfl) (hf : X.fn x = true ∨ X.env.scope.names.lookup x = some .local := by first | exact .inl rfl | exact .inr rfl) : JS X W KE (.Assign [.Name x pos'] e pos) n μ P :=
  js_of (ps_set nd hi hx peC hs hf) fun σ H D ev rp t q => by
    refine h σ H _ ev rp t fun v d H1 μ1 h1 s1 r1 d1 => ?_
    exact q.nx _ _ _ _ h1 ((ev.step s1).set d1 i) s1 r1
theorem exc_rep {H : Hp} {C z : Addr} {d : Option Addr} {fs : List (Str × Dv)} (rp : Rep K μ H) (nz : H z = none) (xr : XRep K μ H d fs) : DRep K μ (upd H z (ExD (.ref C) d z)) (.ref z) (.exc C fs) := by
  cases d with
  | none =>
    have e : fs = [] := xr
    subst e
    exact .exc0 upd_same (rp.free nz)
  | some dd =>
    obtain ⟨vs, e, nd, r⟩ := xr
    exact .exc1 upd_same (rp.free nz) (by rw [upd_ne (ne_of_none e nz)]; exact e) nd (r.step (Step.new nz))
/-- try: body, except x as y: suite; the caught exception is data -/
theorem js_try (i : Nat) {cv : Value} (c : Cok kl X W) (hi : X.N[i]? = some y) (hc : Names X x cv)
    (h : ∀ (pq : List (Addr × Obj)) (xe : Value → Shared → Prop) (W1 : WX), Cok kl (X.tr pq xe) W1 → PassesOwn (model X.prog X.w) X.A X.env xe →
      JB (X.tr pq xe) W1 (fun cls fs n1 μ1 => ∃ b, PySem.W.exmOne X.K cls cv = some b ∧ (b = true → ∃ C, cls = .ref C ∧ ∀ (z : Addr) (pq : List (Addr × Obj)),
        JB (suiteK X z pq) W0 KE0 (b₀ :: suite) (n1.set i (some (.exc C fs))) μ1 { nx := fun n2 μ2 => P.nx (n2.set i none) μ2, rt := P.rt, bk := fun n2 μ2 => P.bk (n2.set i none) μ2, ct := fun n2 μ2 => P.ct (n2.set i none) μ2 }) ∧ (b = false → KE cls fs n1 μ1)) body n μ P)
    (hs : X.stack = X.env :: X.outer := by rfl) (hf : X.env.frame = some X.env.locals := by rfl) (hx : X.ex = [] := by rfl) (hln : X.env.kindOf y = some .local := by rfl) :
    JS X W KE (.Try body [.ExceptHandler (some (.Name x np)) (some y) (b₀ :: suite) pos'] [] [] pos) n μ P :=
  js_of (ps_try_keep (tb := fun W1 D σ H => ∀ (pq : List (Addr × Obj)) (xe : Value → Shared → Prop), Takes (X.tr pq xe) W1 → PassesOwn (model X.prog X.w) X.A X.env xe → cB (X.tr pq xe) body D σ H)
      (ts := fun D σ H => ∀ (z : Addr) (pq : List (Addr × Obj)), cB (suiteK X z pq) (b₀ :: suite) D σ H) hs hf hx c.nd hi hln hc c.tk
      (fun W1 pq xe tk po => ⟨fun pins s σ H D I w => w pq xe tk po pins s I⟩) (fun z pq => ⟨fun pins s σ H D I w => w z pq pins s I⟩)) fun σ H D ev rp t q => by
    intro pq xe tk po
    refine h pq xe _ ⟨c.room, c.calm, tk, c.nd⟩ po σ H D ev rp (fun cls fs d σ1 e1 H1 μ1 hke ev1 st1 rp1 xr => ?_) q
    obtain ⟨b, hexm, yes, no⟩ := hke
    refine ⟨b, hexm, fun hb z nz => ?_, fun hb => t cls fs d σ1 e1 H1 μ1 (no hb) ev1 st1 rp1 xr⟩
    obtain ⟨C, rfl, hz⟩ := yes hb
    intro z2 pq2
    have sN : Step μ1 H1 μ1 (upd H1 z (ExD (.ref C) d z)) := Step.new nz
    have sA := st1.trans sN
    refine hz z2 pq2 _ _ _ ((ev1.step sN).set (exc_rep rp1 nz xr) i) (rp1.new nz) Thr.no ⟨fun σ2 e2 H2 μ2 a b2 c2 d2 => ?_, q.rt.step sA, fun σ2 e2 H2 μ2 a b2 c2 d2 => ?_, fun σ2 e2 H2 μ2 a b2 c2 d2 => ?_⟩
    · exact q.nx _ _ _ _ a (b2.wipe [i]) (sA.trans c2) d2
    · exact q.bk _ _ _ _ a (b2.wipe [i]) (sA.trans c2) d2
    · exact q.ct _ _ _ _ a (b2.wipe [i]) (sA.trans c2) d2
/-! isinstance of an exception -/
def rIsX (K : Kf) : List V → Hp → VK → Prop := fun xs H Q => ∃ (z D : Addr) (c : V) (cv : Value) (b : Bool), xs = [.ref z, c] ∧ (H z = some (ExD (.ref D) none z) ∨ ∃ dd vs, H z = some (ExD (.ref D) (some dd) z) ∧ H dd = some (.xd vs)) ∧ ClsV c cv ∧ ExcC K D ∧ PySem.W.kitOne K (.ref D) cv = some b ∧ Q (.bl b) H
theorem call_isX : CallR X (.builtin "isinstance") (rIsX X.K) := by
  intro pins s σ H xs us Q I r h
  obtain ⟨z, D, c, cv, b, rfl, hz, hc, E, e, q⟩ := h
  cases r with
  | cons rx rr =>
    cases rr with
    | cons rt rr =>
      cases rr
      cases rx
      have ec := hc.eq rt
      subst ec
      rcases hz with hz | ⟨dd, vs, hz, hd⟩
      · obtain ⟨⟨oe, ws, ge, zc, dat⟩, _, _⟩ := I.hok z _ hz
        have J : PySem.W.InstAt s.heap z oe D none := by
          obtain ⟨oc, od, oda, osl⟩ := oe
          obtain ⟨h1, h2⟩ := zc
          dsimp only at h1 h2 dat
          subst h1 h2 dat
          exact ⟨ge, rfl, rfl, trivial⟩
        exact PySem.W.kia_one (PySem.W.handS_kitx_exc E.hg E.hk E.hs E.hd E.ha E.hn E.ht E.hm) I.kIn J e (fun z => nomatch z) fun tk => ⟨.bl b, H, I.kept (t' := tk) fun _ _ z => z, rfl, q⟩
      · obtain ⟨⟨oe, ws, ge, zc, dat⟩, _, _⟩ := I.hok z _ hz
        obtain ⟨mA, ⟨o1, es, ep, hns, _⟩, _⟩ := (show ∃ mA, s.heap.Ns1 dd mA ∧ _ from I.hok dd _ hd)
        have J : PySem.W.InstAt s.heap z oe D (some o1) := by
          obtain ⟨oc, od, oda, osl⟩ := oe
          obtain ⟨h1, h2⟩ := zc
          dsimp only at h1 h2 dat
          subst h1 h2 dat
          exact ⟨ge, rfl, rfl, hns⟩
        obtain ⟨cd, hcd, _⟩ := PySem.W.any_some E.hd
        exact PySem.W.kia_one (PySem.W.kitx_exc (by rw [hcd]; rfl) E.hg E.hk E.hs E.ha E.hn E.ht E.hm) I.kIn J e (fun z => nomatch z) fun tk => ⟨.bl b, H, I.kept (t' := tk) fun _ _ z => z, rfl, q⟩
theorem d_isX {C : Addr} {fs : List (Str × Dv)} {cd : Dv} {u : Value} {b : Bool} (E : ExcC K C) (hc : ClD cd u) (hb : PySem.W.kitOne K (.ref C) u = some b) (h : k (.bl b) μ) : DCl K (rIsX K) [.exc C fs, cd] μ k := fun us H Q r d q => by
  cases d with
  | cons d0 d1 =>
    cases d1 with
    | cons d1 d2 =>
      cases d2
      cases d0 with
      | exc0 hz nz => exact ⟨_, C, _, u, b, rfl, .inl hz, hc.rep d1, E, hb, tl_pure q h r (.bl _)⟩
      | exc1 hz nz hd nd rr => exact ⟨_, C, _, u, b, rfl, .inr ⟨_, _, hz, hd⟩, hc.rep d1, E, hb, tl_pure q h r (.bl _)⟩
end
end DL

/-! ## Dicts -/
namespace DL
open PySem PySem.Spec L2
def valD (kvs : List (Key × Dv)) (k : Key) : Option Dv := (kvs.find? fun kv => decide (kv.1 = k)).map (·.2)
def putKD (kvs : List (Key × Dv)) (k : Key) (v : Dv) : List (Key × Dv) :=
  if (kvs.any fun kv => decide (kv.1 = k)) = true then kvs.map (fun kv => if kv.1 = k then (kv.1, v) else kv) else kvs ++ [(k, v)]
section
variable {K : Kf} {μ : M} {H : Hp}
theorem DKvs.valN {k : Key} : ∀ {vs : List (Key × V)} {ds : List (Key × Dv)}, DKvs K μ H vs ds → valD ds k = none → valV vs k = none
  | _, _, .nil, _ => rfl
  | (f, v) :: vs, (_, d) :: ds, .cons h t, e => by
    unfold valD at e
    unfold valV
    rw [List.find?_cons] at e ⊢
    by_cases z : f = k
    · simp [z] at e
    · simp only [decide_eq_false z] at e ⊢
      exact t.valN e
theorem DKvs.valS {k : Key} {d : Dv} : ∀ {vs : List (Key × V)} {ds : List (Key × Dv)}, DKvs K μ H vs ds → valD ds k = some d → ∃ v, valV vs k = some v ∧ DRep K μ H v d
  | _, _, .nil, e => by cases e
  | (f, v) :: vs, (_, d') :: ds, .cons h t, e => by
    unfold valD at e
    unfold valV
    rw [List.find?_cons] at e ⊢
    by_cases z : f = k
    · simp only [decide_eq_true z, Option.map_some] at e ⊢
      cases e
      exact ⟨v, rfl, h⟩
    · simp only [decide_eq_false z] at e ⊢
      exact t.valS e
theorem DKvs.any {k : Key} : ∀ {vs : List (Key × V)} {ds : List (Key × Dv)}, DKvs K μ H vs ds → (vs.any fun kv => decide (kv.1 = k)) = ds.any fun kv => decide (kv.1 = k)
  | _, _, .nil => rfl
  | _, _, .cons h t => by rw [List.any_cons, List.any_cons, t.any]
theorem DKvs.repl {k : Key} {v : V} {d : Dv} (r : DRep K μ H v d) : ∀ {vs : List (Key × V)} {ds : List (Key × Dv)}, DKvs K μ H vs ds → DKvs K μ H (vs.map fun kv => if kv.1 = k then (kv.1, v) else kv) (ds.map fun kv => if kv.1 = k then (kv.1, d) else kv)
  | _, _, .nil => .nil
  | (f, x) :: vs, (_, y) :: ds, .cons h t => by
    rw [List.map_cons, List.map_cons]
    by_cases z : f = k
    · rw [if_pos z, if_pos z]; exact .cons r (t.repl r)
    · rw [if_neg z, if_neg z]; exact .cons h (t.repl r)
theorem DKvs.snoc {k : Key} {v : V} {d : Dv} (r : DRep K μ H v d) : ∀ {vs : List (Key × V)} {ds : List (Key × Dv)}, DKvs K μ H vs ds → DKvs K μ H (vs ++ [(k, v)]) (ds ++ [(k, d)])
  | _, _, .nil => .cons r .nil
  | _, _, .cons h t => .cons h (t.snoc r)
theorem DKvs.put {k : Key} {v : V} {d : Dv} {vs : List (Key × V)} {ds : List (Key × Dv)} (t : DKvs K μ H vs ds) (r : DRep K μ H v d) : DKvs K μ H (putK vs k v) (putKD ds k d) := by
  unfold putK putKD
  rw [t.any]
  split
  · exact t.repl r
  · exact t.snoc r
theorem DKvs.length : ∀ {vs : List (Key × V)} {ds : List (Key × Dv)}, DKvs K μ H vs ds → vs.length = ds.length
  | _, _, .nil => rfl
  | _, _, .cons _ t => congrArg (· + 1) t.length
/-- a dict, locked or not -/
inductive DicD (μ : M) (a : Addr) (kvs : List (Key × Dv)) : Prop where
  | dic (h : μ a = some (.dic kvs)) | fdc (h : μ a = some (.fdc kvs))
theorem DicD.rep {a : Addr} {kvs : List (Key × Dv)} (h : DicD μ a kvs) (r : Rep K μ H) : ∃ vs, Rd H a (.dK vs) ∧ DKvs K μ H vs kvs := by
  cases h with
  | dic h => obtain ⟨vs, e, q⟩ := r _ _ h; exact ⟨vs, .inl e, q⟩
  | fdc h => obtain ⟨o, vs, e, q⟩ := r _ _ h; exact ⟨vs, .inr ⟨o, e⟩, q⟩
theorem key_rep {u : V} {k : Key} (d : DRep K μ H u (keyD k)) : u = kV k := by
  cases k with
  | inl i => cases d; rfl
  | inr z => cases d; rfl
end
section
variable {X : Cx} {W : WX} {KE : XD} {e f i o value : Expr} {st : Stmt} {n : En} {μ : M} {k : DK} {kb : Bool → M → Prop} {P : Ed} {pos pos' apos cpos : Pos} {kl : Nat} {K : Kf}
theorem je_dget (c : Cok kl X W) (hs : NoSl i) (h : JE X W KE o n μ fun d μ1 => JE X W KE i n μ1 fun y μ2 => ∃ a kvs key v, d = .obj a ∧ DicD μ2 a kvs ∧ y = keyD key ∧ valD kvs key = some v ∧ k v μ2) : JE X W KE (.Subscript o i pos) n μ k :=
  je_of (pe_dget (by have := c.room.un; omega) peC peC hs) fun σ H Q ev rp t q => by
    refine h σ H _ ev rp t fun u d H1 μ1 h1 s1 r1 d1 => ?_
    refine h1 σ H1 _ (ev.step s1) r1 (t.step s1) fun w y H2 μ2 h2 s2 r2 d2 => ?_
    obtain ⟨a, kvs, key, v, rfl, hd, rfl, hv, hk⟩ := h2
    cases d1
    obtain rfl := key_rep d2
    obtain ⟨vs, e1, rr⟩ := hd.rep r2
    obtain ⟨x, ex, dx⟩ := rr.valS hv
    exact ⟨a, x, rfl, .inl ⟨vs, key, e1, rfl, ex.symm⟩, q _ _ _ _ hk (s1.trans s2) r2 dx⟩
theorem dget_of {H : Hp} {a : Addr} {kvs : List (Key × Dv)} {key : Key} (hd : DicD μ a kvs) (r : Rep K μ H) : ∃ o, DGet H a (kV key) o ∧ o.isSome = (valD kvs key).isSome ∧ ∀ d, valD kvs key = some d → ∃ v, o = some v ∧ DRep K μ H v d := by
  obtain ⟨vs, e1, rr⟩ := hd.rep r
  refine ⟨_, .inl ⟨vs, key, e1, rfl, rfl⟩, ?_, fun d e => ?_⟩
  · cases e : valD kvs key with
    | none => rw [rr.valN e]; rfl
    | some d => obtain ⟨v, q, _⟩ := rr.valS e; rw [q]; rfl
  · exact rr.valS e
theorem je_din (c : Cok kl X W) (h : JE X W KE i n μ fun y μ1 => JE X W KE o n μ1 fun d μ2 => ∃ a kvs key, d = .obj a ∧ DicD μ2 a kvs ∧ y = keyD key ∧ k (.bl (valD kvs key).isSome) μ2) (hm : behindInMarks .In o = false := by rfl) : JE X W KE (.Compare i [.In] [o] pos) n μ k :=
  je_of (pe_cmp (pc_din (by have := c.room.un; omega) peC peC) hm) fun σ H Q ev rp t q => by
    refine h σ H _ ev rp t fun u y H1 μ1 h1 s1 r1 d1 => ?_
    refine h1 σ H1 _ (ev.step s1) r1 (t.step s1) fun w d H2 μ2 h2 s2 r2 d2 => ?_
    obtain ⟨a, kvs, key, rfl, hd, rfl, hk⟩ := h2
    cases d2
    obtain rfl := key_rep d1
    obtain ⟨ov, g, e, _⟩ := dget_of (key := key) hd r2
    exact ⟨a, ov, rfl, g, by rw [e]; exact q _ _ _ _ hk (s1.trans s2) r2 (.bl _)⟩
theorem jt_din (c : Cok kl X W) (h : JE X W KE i n μ fun y μ1 => JE X W KE o n μ1 fun d μ2 => ∃ a kvs key, d = .obj a ∧ DicD μ2 a kvs ∧ y = keyD key ∧ kb (valD kvs key).isSome μ2) (hm : behindInMarks .In o = false := by rfl) : JT X W KE (.Compare i [.In] [o] pos) n μ kb :=
  jt_of (pt_cmp (pc_din (by have := c.room.un; omega) peC peC) hm) fun σ H Q ev rp t q => by
    refine h σ H _ ev rp t fun u y H1 μ1 h1 s1 r1 d1 => ?_
    refine h1 σ H1 _ (ev.step s1) r1 (t.step s1) fun w d H2 μ2 h2 s2 r2 d2 => ?_
    obtain ⟨a, kvs, key, rfl, hd, rfl, hk⟩ := h2
    cases d2
    obtain rfl := key_rep d1
    obtain ⟨ov, g, e, _⟩ := dget_of (key := key) hd r2
    exact ⟨a, ov, rfl, g, _, rfl, by rw [e]; exact q _ _ _ hk (s1.trans s2) r2⟩
/-- o[i] = value, o a dict -/
theorem js_dput (c : Cok kl X W) (h : JE X W KE value n μ fun v μ1 => JE X W KE o n μ1 fun d μ2 => JE X W KE i n μ2 fun y μ3 => ∃ a kvs key, d = .obj a ∧ μ3 a = some (.dic kvs) ∧ y = keyD key ∧ kvs.length < sizeLine ∧ P.nx n (updM μ3 a (.dic (putKD kvs key v))))
    (hs : swapsWith value (some (.Subscript o i pos')) pos.line X.env = pure false := by rfl) : JS X W KE (.Assign [.Subscript o i pos'] value pos) n μ P :=
  js_of (ps_dput (by have := c.room.un; omega) peC peC peC hs) fun σ H D ev rp t q => by
    refine h σ H _ ev rp t fun u v H1 μ1 h1 s1 r1 d1 => ?_
    refine h1 σ H1 _ (ev.step s1) r1 (t.step s1) fun w d H2 μ2 h2 s2 r2 d2 => ?_
    refine h2 σ H2 _ (ev.step (s1.trans s2)) r2 (t.step (s1.trans s2)) fun x y H3 μ3 h3 s3 r3 d3 => ?_
    obtain ⟨a, kvs, key, rfl, ha, rfl, hl, hk⟩ := h3
    cases d2
    obtain rfl := key_rep d3
    obtain ⟨vs, e, rr⟩ := r3 _ _ ha
    have s4 := Step.mut (H := H3) (o := .dK (putK vs key u)) (u := .dic (putKD kvs key v)) ha
    have sA := ((s1.trans s2).trans s3).trans s4
    refine ⟨a, _, rfl, .k e (by rw [rr.length]; exact hl), q.nx _ _ _ _ hk (ev.step sA) sA (r3.put s4 ⟨_, upd_same, (rr.step s4).put ((d1.step (s2.trans s3)).step s4)⟩)⟩
/-- a dict is locked while a statement walks over it -/
theorem js_lock {a : Addr} {kvs : List (Key × Dv)} (ha : μ a = some (.dic kvs)) (h : JS X W KE st n (updM μ a (.fdc kvs))
    { nx := fun n1 μ1 => P.nx n1 (updM μ1 a (.dic kvs)), rt := fun d μ1 => P.rt d (updM μ1 a (.dic kvs)), bk := fun n1 μ1 => P.bk n1 (updM μ1 a (.dic kvs)), ct := fun n1 μ1 => P.ct n1 (updM μ1 a (.dic kvs)) }) : JS X W KE st n μ P :=
  js_of (ps_lock psC) fun σ H D ev rp t q => by
    obtain ⟨vs, e, rr⟩ := rp _ _ ha
    refine ⟨a, .dK vs, e, True.intro, fun od => ?_⟩
    have s1 : Step μ H (updM μ a (.fdc kvs)) (upd H a (.frz od (.dK vs))) := Step.mut ha
    have back : ∀ {μ1 : M} {H1 : Hp}, Step (updM μ a (.fdc kvs)) (upd H a (.frz od (.dK vs))) μ1 H1 → Rep X.K μ1 H1 → H1 a = some (.frz od (.dK vs)) ∧ Step μ H (updM μ1 a (.dic kvs)) (upd H1 a (.dK vs)) ∧ Step0 μ1 H1 (updM μ1 a (.dic kvs)) (upd H1 a (.dK vs)) ∧ Rep X.K (updM μ1 a (.dic kvs)) (upd H1 a (.dK vs)) := by
      intro μ1 H1 s2 r2
      obtain ⟨e1, m1⟩ := s2.l a _ kvs upd_same updM_same
      have s0 : Step0 μ1 H1 (updM μ1 a (.dic kvs)) (upd H1 a (.dK vs)) := fun b o hb nb => by
        have ne : b ≠ a := fun z => by rw [z, m1] at nb; cases nb
        exact ⟨by rw [upd_ne ne]; exact hb, by rw [updM_ne ne]; exact nb⟩
      obtain ⟨od2, vs2, e2, rr2⟩ := r2 _ _ m1
      rw [e1] at e2
      cases e2
      refine ⟨e1, ⟨fun b o hb nb => ?_, fun b o k2 hb nb => ?_⟩, s0, fun b o hb => ?_⟩
      · have ne : b ≠ a := fun z => by rw [z, ha] at nb; cases nb
        obtain ⟨x1, x2⟩ := s2.d b o (by rw [upd_ne ne]; exact hb) (by rw [updM_ne ne]; exact nb)
        exact ⟨by rw [upd_ne ne]; exact x1, by rw [updM_ne ne]; exact x2⟩
      · have ne : b ≠ a := fun z => by rw [z, ha] at nb; cases nb
        obtain ⟨x1, x2⟩ := s2.l b o k2 (by rw [upd_ne ne]; exact hb) (by rw [updM_ne ne]; exact nb)
        exact ⟨by rw [upd_ne ne]; exact x1, by rw [updM_ne ne]; exact x2⟩
      · by_cases z : b = a
        · subst z
          rw [updM_same] at hb
          cases hb
          exact ⟨vs, upd_same, DKvs.step0 s0 rr2⟩
        · rw [updM_ne z] at hb
          exact MRep.step0 s0 (upd_ne z) (r2 b o hb)
    have envB : ∀ {μ1 : M} {H1 : Hp} {σ1 : L2.St} {e1 : En}, Step0 μ1 H1 (updM μ1 a (.dic kvs)) (upd H1 a (.dK vs)) → Env X.K μ1 H1 σ1 e1 → Env X.K (updM μ1 a (.dic kvs)) (upd H1 a (.dK vs)) σ1 e1 :=
      fun s0 ev1 => ⟨ev1.1, fun i d q => let ⟨v, x, y⟩ := ev1.2 i d q; ⟨v, x, DRep.step0 s0 y⟩⟩
    refine h σ _ _ (ev.step s1) ?_ (t.step s1) ⟨fun σ1 e1 H1 μ1 hp ev1 st1 rp1 => ?_, fun v d H1 μ1 hp st1 rp1 dv => ?_, fun σ1 e1 H1 μ1 hp ev1 st1 rp1 => ?_, fun σ1 e1 H1 μ1 hp ev1 st1 rp1 => ?_⟩
    · exact rp.put s1 ⟨od, vs, upd_same, rr.step s1⟩
    · obtain ⟨x1, x2, x3, x4⟩ := back st1 rp1
      exact ⟨x1, q.nx _ _ _ _ hp (envB x3 ev1) x2 x4⟩
    · obtain ⟨x1, x2, x3, x4⟩ := back st1 rp1
      exact ⟨x1, q.rt _ _ _ _ hp x2 x4 (DRep.step0 x3 dv)⟩
    · obtain ⟨x1, x2, x3, x4⟩ := back st1 rp1
      exact ⟨x1, q.bk _ _ _ _ hp (envB x3 ev1) x2 x4⟩
    · obtain ⟨x1, x2, x3, x4⟩ := back st1 rp1
      exact ⟨x1, q.ct _ _ _ _ hp (envB x3 ev1) x2 x4⟩
/-- tuple(..) of a list, of a tuple -/
theorem d_tupOf {x : Dv} {xs : List Dv} (l : SqD μ x xs) (h : k (.tup xs) μ) : DCl K (fun us H Q => ∃ p ys, us = [V.ref p] ∧ ((SqL K H p ys ∧ ∀ l, H l = none → Q (.ref l) (upd H l (.tup ys))) ∨ (SqT K H p ys ∧ Q (.ref p) H))) [x] μ k := fun us H Q r d t => by
  cases d with
  | cons d0 d1 =>
    cases d1
    obtain ⟨a, vs, rfl, ha, ra⟩ := l.rep r d0
    exact ⟨a, vs, rfl, .inl ⟨ha, fun p hp => tl_new t h r hp (.tup upd_same (r.free hp) (ra.step (Step.new hp)))⟩⟩
theorem d_tupOfT {xs : List Dv} (h : k (.tup xs) μ) : DCl K (fun us H Q => ∃ p ys, us = [V.ref p] ∧ ((SqL K H p ys ∧ ∀ l, H l = none → Q (.ref l) (upd H l (.tup ys))) ∨ (SqT K H p ys ∧ Q (.ref p) H))) [.tup xs] μ k := fun us H Q r d t => by
  cases d with
  | cons d0 d1 =>
    cases d1
    obtain ⟨a, vs, rfl, ha, ra⟩ := tup_rep d0
    exact ⟨a, vs, rfl, .inr ⟨SqT.of ha, t _ _ _ _ h (Step.refl _ _) r d0⟩⟩
end
end DL

/-! ## signs, comprehensions that make things -/
namespace DL
open PySem PySem.Spec L2
section
variable {X : Cx} {W : WX} {KE : XD} {a b e : Expr} {n : En} {μ : M} {k : DK} {kb : Bool → M → Prop} {pos : Pos} {K : Kf} {scope : Scope} {ifs : List Expr} {elt : Expr} {i : Nat}
def rInSg : R2 := fun x y H Q => ∃ (c : Nat) (z : Str), x = .str ⟨#[c]⟩ ∧ y = .str z ∧ Q (.bl (decide (c ∈ z.cps.toList))) H
theorem je_inS (h : JE X W KE a n μ fun x μ1 => JE X W KE b n μ1 fun y μ2 => DOp X.K rInSg x y μ2 k) (hm : behindInMarks .In b = false := by rfl) : JE X W KE (.Compare a [.In] [b] pos) n μ k := je_cmp op_in_sign hm h
theorem d_inS {c : Nat} {z : Str} (h : k (.bl (decide (c ∈ z.cps.toList))) μ) : DOp K rInSg (.str ⟨#[c]⟩) (.str z) μ k := fun u v H Q r du dv t => by
  cases du; cases dv
  exact ⟨c, z, rfl, rfl, tl_pure t h r (.bl _)⟩
theorem LcTurn.mono {ko ko' : Option Dv → M → Prop} (h : LcTurn X scope ifs elt n μ ko) (m : ∀ o μ', ko o μ' → ko' o μ') : LcTurn X scope ifs elt n μ ko' := by
  intro s H C cl fp
  have h1 := h s H C cl fp
  match ifs, h1 with
  | [], h1 => exact ⟨fun z s2 H2 C2 cl2 fp2 => (h1.1 z s2 H2 C2 cl2 fp2).mono fun y μ3 q => m _ _ q, fun z => m _ _ (h1.2 z)⟩
  | [c], h1 => exact JT.mono h1 fun b μ2 q => ⟨fun z s2 H2 C2 cl2 fp2 => (q.1 z s2 H2 C2 cl2 fp2).mono fun y μ3 q => m _ _ q, fun z => m _ _ (q.2 z)⟩
theorem delM_ext {μ1 μ' : M} {p : Addr} (h : ∀ a o, μ1 a = some o → a ≠ p ∧ μ' a = some o) : ExtM μ1 (delM μ' p) := fun a o e => by
  obtain ⟨ne, q⟩ := h a o e
  rw [delM_ne ne]; exact q
/-- a comprehension each turn of which makes one new mutable thing -/
theorem lc_make {α : Type} (dv : α → Dv) (mk : α → MO) (xs : List α) {s : Src} {μ1 : M} (hs : s.items = xs.map dv) (hok : s.Ok μ1) (hl : xs.length < sizeLine)
    (h : ∀ (x : α) (μ' : M), x ∈ xs → ExtM μ1 μ' → LcTurn X scope ifs elt ((n.set i none).set i (some (dv x))) μ' fun o μ3 => ∃ a, o = some (.obj a) ∧ μ' a = none ∧ μ3 = updM μ' a (mk x))
    (hk : ∀ (as : List Addr) (μ' : M), ExtM μ1 μ' → as.length = xs.length → (∀ (j : Nat) (a : Addr) (x : α), as[j]? = some a → xs[j]? = some x → μ' a = some (mk x)) → as.Nodup → (∀ a ∈ as, μ1 a = none) → k (.lst (as.map Dv.obj)) μ') : LcAll X scope ifs elt i n k s μ1 := fun p hp => by
  refine ⟨fun j acc μ' => ∃ as : List Addr, acc = as.map Dv.obj ∧ μ' p = some (.lst acc) ∧ as.length = j ∧ j ≤ xs.length ∧ ExtM μ1 (delM μ' p) ∧ (∀ (m : Nat) (a : Addr) (x : α), as[m]? = some a → xs[m]? = some x → (delM μ' p) a = some (mk x)) ∧ as.Nodup ∧ (∀ a ∈ as, μ1 a = none), ?_, ?_, ?_, ?_⟩
  · refine ⟨[], rfl, updM_same, rfl, Nat.zero_le _, delM_ext fun a o e => ?_, fun m a x e => (by cases e), List.nodup_nil, fun a ha => (nomatch ha)⟩
    have ne : a ≠ p := fun z => by rw [z, hp] at e; cases e
    exact ⟨ne, by rw [updM_ne ne]; exact e⟩
  · rintro j acc μ' ⟨as, rfl, e, hj, hjl, hx, _⟩
    refine ⟨hok.ext fun a o q => ?_, e, by rw [List.length_map]; omega⟩
    have := hx a o q
    have ne : a ≠ p := fun z => by rw [z, delM_same] at this; cases this
    rw [delM_ne ne] at this
    exact this
  · rintro j x acc μ' hx ⟨as, rfl, e, hj, hjl, hx1, hm, nd, nw⟩
    rw [hs, List.getElem?_map] at hx
    cases hxx : xs[j]? with
    | none => rw [hxx] at hx; cases hx
    | some x0 =>
    rw [hxx] at hx
    cases hx
    have hjx : j < xs.length := (List.getElem?_eq_some_iff.mp hxx).1
    have ex : ExtM μ1 μ' := fun a o q => by
      have := hx1 a o q
      have ne : a ≠ p := fun z => by rw [z, delM_same] at this; cases this
      rw [delM_ne ne] at this
      exact this
    refine (h x0 μ' (List.mem_of_getElem? hxx) ex).mono fun o μ3 ⟨b, e1, e2, e3⟩ => ?_
    subst e1; subst e3
    have bp : b ≠ p := fun z => by rw [z, e] at e2; cases e2
    have key : delM (updM (updM μ' b (mk x0)) p (.lst (as.map Dv.obj ++ [.obj b]))) p = updM (delM μ' p) b (mk x0) := by
      funext q
      by_cases z : q = p
      · subst z
        rw [delM_same, updM_ne (Ne.symm bp), delM_same]
      · rw [delM_ne z, updM_ne z]
        by_cases y : q = b
        · subst y; rw [updM_same, updM_same]
        · rw [updM_ne y, updM_ne y, delM_ne z]
    have bn : b ∉ as := fun hb => by
      obtain ⟨m, hm1⟩ := List.getElem?_of_mem hb
      have hlt : m < xs.length := by have := (List.getElem?_eq_some_iff.mp hm1).1; omega
      have := hm m b _ hm1 (List.getElem?_eq_getElem hlt)
      rw [delM_ne bp, e2] at this
      cases this
    refine ⟨by rw [updM_ne (Ne.symm bp)]; exact e, as ++ [b], by rw [List.map_append]; rfl, updM_same, by rw [List.length_append, hj]; rfl, hjx, ?_, ?_, ?_, ?_⟩
    · rw [key]
      intro a o q
      have h1 := hx1 a o q
      have nb : a ≠ b := fun z => by rw [z, delM_ne bp, e2] at h1; cases h1
      rw [updM_ne nb]; exact h1
    · rw [key]
      intro m a x ha hx
      by_cases z : m < as.length
      · rw [List.getElem?_append_left z] at ha
        have nb : a ≠ b := fun q => bn (q ▸ List.mem_of_getElem? ha)
        rw [updM_ne nb]; exact hm m a x ha hx
      · rw [List.getElem?_append_right (by omega)] at ha
        have hm0 : m - as.length = 0 := by
          cases q : m - as.length with
          | zero => rfl
          | succ r => rw [q] at ha; cases ha
        rw [hm0] at ha
        cases ha
        have : m = j := by omega
        subst this
        rw [hxx] at hx
        cases hx
        exact updM_same
    · rw [List.nodup_append]
      refine ⟨nd, List.nodup_cons.mpr ⟨fun z => (nomatch z), List.nodup_nil⟩, fun x hx y hy q => ?_⟩
      cases List.mem_singleton.mp hy
      exact bn (q ▸ hx)
    · intro a ha
      rcases List.mem_append.mp ha with ha | ha
      · exact nw a ha
      · cases List.mem_singleton.mp ha
        cases q : μ1 b with
        | none => rfl
        | some o => rw [ex b o q] at e2; cases e2
  · rintro acc μ' ⟨as, rfl, e, hj, hjl, hx1, hm, nd, nw⟩
    rw [hs, List.length_map] at hj
    exact .inl (hk as _ hx1 hj hm nd nw)
end
end DL
namespace DL
open PySem PySem.Spec L2
section
variable {X : Cx} {W : WX} {KE : XD} {tg iter : Expr} {n : En} {μ : M} {ks : Src → M → Prop}
/-- a list or a tuple, walked -/
theorem ji_LT {d0 : Dv} {xs : List Dv} (hd : d0 = .lst xs ∨ d0 = .tup xs) (h : JE X W KE iter n μ fun d μ1 => d = d0 ∧ ∀ s : Src, s.items = xs → (∀ μ', s.Ok μ') → ks s μ1) : JI X W KE tg iter n μ ks := by
  rcases hd with rfl | rfl
  · exact ji_seq (h.mono fun d μ1 ⟨e, q⟩ => by subst e; exact ⟨xs, .lst _, q (.seq _ xs) rfl fun _ => .lst _⟩)
  · exact ji_tup (h.mono fun d μ1 ⟨e, q⟩ => by subst e; exact ⟨xs, rfl, q (.tup xs) rfl fun _ => trivial⟩)
end
end DL

/-! ## defs with defaults -/
namespace DL
open PySem PySem.Spec L2
theorem fn_dataD {Pg : Program} {w : World} {K : Kf} {mg : Str → Option Value} {base : Heap} {x qual : Str} {st : Stmt} {f : Addr} {fd : FuncData} {dvs : List V} {kws : List (Str × V)} {N ps : List Str} {k : Nat} {S : DSp} (F : FunD K x qual (defArgs st) (defBody st) (defScope st) dvs kws f fd) (Sc : FnScope N ps (defScope st)) (len : ∀ ds μ kd ke, S ds μ kd ke → ds.length = ps.length)
    (hbody : ∀ (cdv : Value) (A : Around) (outer : List PySem.Env) (s : Shared) (H : Hp) (E : XK),
      let X := cxOf (L2.CX Pg w) Pg w K mg base N qual (defScope st) f cdv A outer s H E
      Cok k X (fun cls d _ H => E cls d H) → PassesOwn (model X.prog X.w) X.A X.env X.xe → ∀ (ds : List Dv) (μ : M) (kd : DK) (ke : XF), S ds μ kd ke →
        JB X (fun cls d _ H => E cls d H) (fun cls fs _ μ' => ke cls fs μ') (defBody st) (ds.map some ++ List.replicate (N.length - ds.length) none) μ { nx := fun _ μ' => kd .non μ', rt := kd }) : FnOk Pg w K mg base (L2.CX Pg w) (k + 1) f fd ps (toSp K S) := by
  refine F.ok (CX := L2.CX Pg w) Sc (fun vs H Q E h => ?_) (fun cdv A outer s H vs Q E hr h => ?_)
  · obtain ⟨ds, μ, kd, ke, dr, rp, sp, _⟩ := h
    rw [dr.length]
    exact len _ _ _ _ sp
  · obtain ⟨ds, μ, kd, ke, dr, rp, sp, tl, tx⟩ := h
    refine ⟨_, pbC, hbody cdv A outer s H E ⟨hr, rfl, takes_of rfl rfl rfl rfl, Sc.nd⟩ (passes_of rfl) ds μ kd ke sp _ H _ ?_ rp (fun cls fs d σ' e' H' μ' h1 _ s1 r1 x1 => tx cls fs d H' μ' h1 s1 r1 x1) ⟨fun σ' e' H' μ' h1 _ s1 r1 => tl .non .non H' μ' h1 s1 r1 .non, tl, fun _ _ _ _ h => False.elim h, fun _ _ _ _ h => False.elim h⟩⟩
    unfold L2.start
    rw [dr.length]
    exact Env.start _ dr
end DL

/-! ## methods of built-in types, sorted(dict), d.get, enumerate, lists that stay mutable -/
namespace DL
open PySem PySem.Spec L2
/-- a method of a built-in type on data -/
def DMd (K : Kf) (r : V → List V → Hp → VK → Prop) (x : Dv) (ds : List Dv) (μ : M) (k : DK) : Prop := ∀ u us H Q, Rep K μ H → DRep K μ H u x → DReps K μ H us ds → Tl K μ H k Q → r u us H Q
theorem ExtM.trans {μ μ1 μ2 : M} (h : ExtM μ μ1) (g : ExtM μ1 μ2) : ExtM μ μ2 := fun a o e => g a o (h a o e)
def DTy (K : Kf) (T : String) (x : Dv) (μ : M) : Prop := ∀ u H, Rep K μ H → DRep K μ H u x → tyV K T u H
theorem SqD.mono {μ μ' : M} {d : Dv} {xs : List Dv} (l : SqD μ d xs) (e : ∀ a o, μ a = some o → μ' a = some o) : SqD μ' d xs := by
  cases l with
  | lst => exact .lst _
  | fro => exact .fro _
  | obj h => exact .obj (e _ _ h)
section
variable {X : Cx} {W : WX} {KE : XD} {e f o : Expr} {es : List Expr} {n : En} {μ : M} {k : DK} {pos apos cpos : Pos} {K : Kf} {name : Str} {T id : String} {r : V → List V → Hp → VK → Prop} {kl : Nat}
theorem DTy.lst {x : Dv} {xs : List Dv} (l : SqD μ x xs) : DTy K "list" x μ := fun u H rp d => by
  obtain ⟨a, vs, rfl, ha, _⟩ := l.rep rp d
  exact .inl ⟨rfl, _, ha⟩
theorem DTy.str {z : Str} : DTy K "str" (.str z) μ := fun u H rp d => by
  cases d
  rfl
theorem je_bm (pa : PlainAttrs T) (slot : Slot T name id) (hty : typeOf (.builtin id) = pure (.type "method_descriptor")) (hm : MtR X id r)
    (h : JE X W KE o n μ fun x μ1 => DTy X.K T x μ1 ∧ JA X W KE (e :: es) n μ1 fun ds μ2 => DMd X.K r x ds μ2 k)
    (hbase : attributeBase o name X.env (eval o X.env) = eval o X.env := by rfl)
    (hfew : ((backTo cpos (starEach (e :: es) X.env)).all (fun x => !x.1) && (backToKw cpos (keywordEach [] X.env)).all (fun x => x.1.isSome)
      && decide ((e :: es).length + ([] : List Keyword).length + (if ([] : List Keyword).isEmpty then 0 else 1) < 30)) = true := by rfl)
    (hline : (apos.endLine == cpos.line) = true := by rfl) (hs : starEach (e :: es) X.env = (false, eval e X.env) :: starEach es X.env := by rfl) (hplain : (backTo cpos (starEach es X.env)).any (·.1) = false := by rfl) :
    JE X W KE (.Call (.Attribute o name apos) (e :: es) [] cpos) n μ k :=
  je_of (pe_bm pa slot hty hm peC paC hbase hfew hline hs hplain) fun σ H Q ev rp t q => by
    refine h σ H _ ev rp t fun u x H1 μ1 h1 s1 r1 d1 => ?_
    obtain ⟨ty, h1⟩ := h1
    refine ⟨ty u H1 r1 d1, ?_⟩
    refine h1 σ H1 _ (ev.step s1) r1 (t.step s1) fun us ds H2 μ2 h2 s2 r2 d2 => ?_
    exact h2 u us H2 Q r2 (d1.step s2) d2 (q.step (s1.trans s2))
theorem je_bm0 (pa : PlainAttrs T) (slot : Slot T name id) (hty : typeOf (.builtin id) = pure (.type "method_descriptor")) (hm : MtR X id r)
    (h : JE X W KE o n μ fun x μ1 => DTy X.K T x μ1 ∧ DMd X.K r x [] μ1 k)
    (hbase : attributeBase o name X.env (eval o X.env) = eval o X.env := by rfl) (hline : (apos.endLine == cpos.line) = true := by rfl) :
    JE X W KE (.Call (.Attribute o name apos) [] [] cpos) n μ k :=
  je_of (pe_bm0 pa slot hty hm peC hbase hline) fun σ H Q ev rp t q => by
    refine h σ H _ ev rp t fun u x H1 μ1 h1 s1 r1 d1 => ?_
    obtain ⟨ty, h1⟩ := h1
    exact ⟨ty u H1 r1 d1, h1 u [] H1 Q r1 d1 .nil (q.step s1)⟩
/-- xs.reverse() of a mutable list -/
theorem d_reverse {a : Addr} {xs : List Dv} (ha : μ a = some (.lst xs)) (h : k .non (updM μ a (.lst xs.reverse))) : DMd K rReverse (.obj a) [] μ k := fun u us H Q rp d ds t => by
  cases d; cases ds
  obtain ⟨vs, e, rr⟩ := rp _ _ ha
  have s3 := Step.mut (H := H) (o := .lst vs.reverse) (u := .lst xs.reverse) ha
  exact ⟨a, vs, rfl, rfl, e, t _ _ _ _ h s3 (rp.put s3 ⟨_, upd_same, rr.reverse.step s3⟩) .non⟩
def rInsert : V → List V → Hp → VK → Prop := fun x vs H Q => ∃ (l : Addr) (xs : List V) (i : Int) (y : V), x = .ref l ∧ vs = [.int i, y] ∧ H l = some (.lst xs) ∧ xs.length < sizeLine ∧ 0 ≤ i ∧ i < 2 ^ 63 ∧
    Q .non (upd H l (.lst (xs.take i.toNat ++ [y] ++ xs.drop i.toNat)))
theorem d_insert {a : Addr} {xs : List Dv} {i : Int} {y : Dv} (ha : μ a = some (.lst xs)) (hz : xs.length < sizeLine) (h0 : 0 ≤ i) (h1 : i < 2 ^ 63) (h : k .non (updM μ a (.lst (xs.take i.toNat ++ [y] ++ xs.drop i.toNat)))) : DMd K rInsert (.obj a) [.int i, y] μ k := fun u us H Q rp d ds t => by
  cases d
  cases ds with
  | cons d1 ds =>
    cases ds with
    | cons d2 ds =>
      cases ds; cases d1
      obtain ⟨vs, e, rr⟩ := rp _ _ ha
      rename_i w0
      have s3 := Step.mut (H := H) (o := .lst (vs.take i.toNat ++ [w0] ++ vs.drop i.toNat)) (u := .lst (xs.take i.toNat ++ [y] ++ xs.drop i.toNat)) ha
      exact ⟨a, vs, i, _, rfl, rfl, e, by rw [rr.length]; exact hz, h0, h1, t _ _ _ _ h s3 (rp.put s3 ⟨_, upd_same, (((rr.take _).append (.one d2)).append (rr.drop _)).step s3⟩) .non⟩
/-- d.get(k, x) -/
theorem je_dget2 (c : Cok kl X W) (h : JE X W KE o n μ fun d μ1 => ∃ a, d = .obj a ∧ (∃ kvs, DicD μ1 a kvs) ∧ JE X W KE e n μ1 fun y μ2 => JE X W KE f n μ2 fun z μ3 => ∃ kvs key, DicD μ3 a kvs ∧ y = keyD key ∧ k ((valD kvs key).getD z) μ3)
    (m : M2 X o "get" apos e f cpos := by exact ⟨rfl, rfl, rfl, rfl⟩) : JE X W KE (.Call (.Attribute o "get" apos) [e, f] [] cpos) n μ k :=
  je_of (pe_dget2 (by have := c.room.un; omega) peC peC peC m) fun σ H Q ev rp t q => by
    refine h σ H _ ev rp t fun u d H1 μ1 h1 s1 r1 d1 => ?_
    obtain ⟨a, rfl, ⟨kv0, hd0⟩, h1⟩ := h1
    cases d1
    obtain ⟨vs0, e0, _⟩ := hd0.rep r1
    refine ⟨a, rfl, .inl ⟨vs0, e0⟩, ?_⟩
    refine h1 σ H1 _ (ev.step s1) r1 (t.step s1) fun w y H2 μ2 h2 s2 r2 d2 => ?_
    have s12 := s1.trans s2
    refine h2 σ H2 _ (ev.step s12) r2 (t.step s12) fun z zd H3 μ3 h3 s3 r3 d3 => ?_
    obtain ⟨kvs, key, hd, rfl, hk⟩ := h3
    obtain rfl := key_rep (d2.step s3)
    obtain ⟨vs, e1, rr⟩ := hd.rep r3
    refine ⟨_, .inl ⟨vs, key, e1, rfl, rfl⟩, ?_⟩
    cases hv : valD kvs key with
    | none => rw [rr.valN hv]; rw [hv] at hk; exact q _ _ _ _ hk (s12.trans s3) r3 d3
    | some v =>
      obtain ⟨x, ex, dx⟩ := rr.valS hv
      rw [ex]; rw [hv] at hk
      exact q _ _ _ _ hk (s12.trans s3) r3 dx
def rSortedDD : List V → Hp → VK → Prop := fun xs H Q => ∃ (a : Addr) (kvs : List (Key × V)) (ks : List Str), xs = [.ref a] ∧ Rd H a (.dK kvs) ∧ kvs.map (·.1) = ks.map Sum.inr ∧ ks.length < 64 ∧
    ∀ ys p, ys.Perm ks → PyProof.Rows.sortedS ys = true → H p = none → Q (.ref p) (upd H p (.lst (ys.map V.str)))
/-- sorted(d), the list mutable -/
theorem d_sortedDM {a : Addr} {kvs : List (Key × Dv)} {ks : List Str} (hd : DicD μ a kvs) (hk : kvs.map (·.1) = ks.map Sum.inr) (h64 : ks.length < 64) (h : ∀ ys p, ys.Perm ks → PyProof.Rows.sortedS ys = true → μ p = none → k (.obj p) (updM μ p (.lst (ys.map Dv.str)))) : DCl K rSortedDD [.obj a] μ k := fun us H Q rp d t => by
  cases d with
  | cons d0 d1 =>
    cases d1; cases d0
    obtain ⟨vs, e1, rr⟩ := hd.rep rp
    refine ⟨a, vs, ks, rfl, e1, rr.keys.trans hk, h64, fun ys p h1 h2 hp => ?_⟩
    have s2 : Step μ H (updM μ p (.lst (ys.map Dv.str))) (upd H p (.lst (ys.map V.str))) := Step.newM hp
    exact t _ _ _ _ (h ys p h1 h2 (rp.free hp)) s2 (rp.put s2 ⟨_, upd_same, DReps.ofStrs ys⟩) (.obj p)
theorem d_sortedD {a : Addr} {kvs : List (Key × Dv)} {ks : List Str} (hd : DicD μ a kvs) (hk : kvs.map (·.1) = ks.map Sum.inr) (h64 : ks.length < 64) (h : ∀ ys, ys.Perm ks → PyProof.Rows.sortedS ys = true → k (.lst (ys.map Dv.str)) μ) : DCl K rSortedDD [.obj a] μ k := fun us H Q rp d t => by
  cases d with
  | cons d0 d1 =>
    cases d1; cases d0
    obtain ⟨vs, e1, rr⟩ := hd.rep rp
    refine ⟨a, vs, ks, rfl, e1, rr.keys.trans hk, h64, fun ys p h1 h2 hp => ?_⟩
    exact tl_new t (h ys h1 h2) rp hp (.lst upd_same (rp.free hp) (DReps.ofStrs ys))
end
/-! sorted texts are one list -/
theorem ltC_irr : ∀ a : List Nat, ltCps a a = false
  | [] => rfl
  | a :: r => by show (decide (a < a) || (a == a && ltCps r r)) = false; rw [ltC_irr r, decide_eq_false (Nat.lt_irrefl a)]; simp
theorem ltC_tri : ∀ {a b : List Nat}, ltCps a b = false → ltCps b a = false → a = b
  | [], [], _, _ => rfl
  | [], _ :: _, h, _ => by cases h
  | _ :: _, [], _, h => by cases h
  | a :: r, b :: t, h, h' => by
    replace h : (decide (a < b) || (a == b && ltCps r t)) = false := h
    replace h' : (decide (b < a) || (b == a && ltCps t r)) = false := h'
    simp only [Bool.or_eq_false_iff, decide_eq_false_iff_not, Bool.and_eq_false_iff, beq_eq_false_iff_ne] at h h'
    have e : a = b := by omega
    subst e
    rw [ltC_tri (h.2.resolve_left (fun z => z rfl)) (h'.2.resolve_left (fun z => z rfl))]
theorem ltC_trans : ∀ {a b c : List Nat}, ltCps b a = false → ltCps c b = false → ltCps c a = false
  | [], _, [], _, _ => rfl
  | _ :: _, [], _, h, _ => by cases h
  | _, _ :: _, [], _, h => by cases h
  | [], _, _ :: _, _, _ => rfl
  | a :: r, b :: s, c :: t, h, h' => by
    replace h : (decide (b < a) || (b == a && ltCps s r)) = false := h
    replace h' : (decide (c < b) || (c == b && ltCps t s)) = false := h'
    show (decide (c < a) || (c == a && ltCps t r)) = false
    simp only [Bool.or_eq_false_iff, decide_eq_false_iff_not, Bool.and_eq_false_iff, beq_eq_false_iff_ne] at h h' ⊢
    refine ⟨by omega, ?_⟩
    by_cases e : c = a
    · right
      have e1 : b = a := by omega
      have e2 : c = b := by omega
      exact ltC_trans (h.2.resolve_left (fun z => z e1)) (h'.2.resolve_left (fun z => z e2))
    · exact .inl e
theorem rising_pw : ∀ {l : List Str} {p : Str}, PyProof.Rows.risingS p l = true → (p :: l).Pairwise fun a b => ltCps b.cps.toList a.cps.toList = false
  | [], p, _ => List.pairwise_singleton _ _
  | x :: r, p, h => by
    replace h : (!ltCps x.cps.toList p.cps.toList && PyProof.Rows.risingS x r) = true := h
    rw [Bool.and_eq_true] at h
    have ih := rising_pw h.2
    have h1 : ltCps x.cps.toList p.cps.toList = false := by simpa using h.1
    refine List.pairwise_cons.mpr ⟨fun y hy => ?_, ih⟩
    rcases List.mem_cons.mp hy with rfl | hy
    · exact h1
    · exact ltC_trans h1 ((List.pairwise_cons.mp ih).1 y hy)
theorem sortedS_pw {l : List Str} (h : PyProof.Rows.sortedS l = true) : l.Pairwise fun a b => ltCps b.cps.toList a.cps.toList = false := by
  cases l with
  | nil => exact .nil
  | cons x r => exact rising_pw h
theorem str_ext {a b : Str} (h : a.cps.toList = b.cps.toList) : a = b := by
  obtain ⟨⟨x⟩⟩ := a
  obtain ⟨⟨y⟩⟩ := b
  cases (show x = y from h)
  rfl
theorem sortedS_uniq {l l' : List Str} (p : l.Perm l') (h : PyProof.Rows.sortedS l = true) (h' : PyProof.Rows.sortedS l' = true) : l = l' :=
  List.Perm.eq_of_pairwise (le := fun a b : Str => ltCps b.cps.toList a.cps.toList = false) (fun a b _ _ h1 h2 => str_ext (ltC_tri h2 h1)) (sortedS_pw h) (sortedS_pw h') p
/-! comprehensions that stay mutable -/
section
variable {X : Cx} {scope : Scope} {ifs : List Expr} {elt : Expr} {i : Nat} {n : En} {k : DK}
theorem lc_mapM {α : Type} (dv : α → Dv) (xs : List α) (g : α → Option Dv) {s : Src} {μ1 : M} (hs : s.items = xs.map dv) (hok : s.Ok μ1) (hl : xs.length < sizeLine)
    (h : ∀ (j : Nat) (x : α) (μ' : M), xs[j]? = some x → ExtM μ1 μ' → LcTurn X scope ifs elt ((n.set i none).set i (some (dv x))) μ' fun o μ3 => o = g x ∧ μ3 = μ') (hk : ∀ a, μ1 a = none → k (.obj a) (updM μ1 a (.lst (xs.filterMap g)))) : LcAll X scope ifs elt i n k s μ1 := fun a ha => by
  obtain ⟨Iv, h0, hok', ht, hend⟩ := lc_map (k := fun d μ' => d = .lst (xs.filterMap g) ∧ μ' = μ1) dv xs g hs hok hl h ⟨rfl, rfl⟩ a ha
  refine ⟨Iv, h0, hok', ht, fun acc μ' iv => ?_⟩
  rcases hend acc μ' iv with ⟨e1, e2⟩ | ⟨_, e1, _⟩
  · cases e1
    have hm := (hok' _ _ _ iv).2.1
    refine .inr ⟨hm, ?_⟩
    rw [show μ' = updM μ1 a (.lst (xs.filterMap g)) from ?_]
    · exact hk a ha
    · funext b
      by_cases z : b = a
      · rw [z, updM_same, hm]
      · rw [updM_ne z, ← e2, delM_ne z]
  · cases e1
end
end DL
namespace DL
open PySem PySem.Spec L2
/-! a list, a tuple, a list that may change -/
inductive LTD (μ : M) : Dv → List Dv → Prop where
  | lst (xs : List Dv) : LTD μ (.lst xs) xs
  | tup (xs : List Dv) : LTD μ (.tup xs) xs
  | obj {a : Addr} {xs : List Dv} (h : μ a = some (.lst xs)) : LTD μ (.obj a) xs
theorem LTD.ext {μ μ' : M} {d : Dv} {xs : List Dv} (l : LTD μ d xs) (e : ExtM μ μ') : LTD μ' d xs := by
  cases l with
  | lst => exact .lst _
  | tup => exact .tup _
  | obj h => exact .obj (e _ _ h)
section
variable {X : Cx} {W : WX} {KE : XD} {tg iter : Expr} {n : En} {μ : M} {ks : Src → M → Prop} {k : DK} {K : Kf}
theorem ji_LTD {d0 : Dv} {xs : List Dv} (hd : LTD μ d0 xs) (h : JE X W KE iter n μ fun d μ1 => d = d0 ∧ μ1 = μ ∧ ∀ s : Src, s.items = xs → (∀ μ', ExtM μ μ' → s.Ok μ') → ks s μ1) : JI X W KE tg iter n μ ks := by
  cases hd with
  | lst => exact ji_seq (h.mono fun d μ1 ⟨e, _, q⟩ => by subst e; exact ⟨xs, .lst _, q (.seq _ xs) rfl fun _ _ => .lst _⟩)
  | tup => exact ji_tup (h.mono fun d μ1 ⟨e, _, q⟩ => by subst e; exact ⟨xs, rfl, q (.tup xs) rfl fun _ _ => trivial⟩)
  | obj ha => exact ji_seq (h.mono fun d μ1 ⟨e, e2, q⟩ => by subst e; subst e2; exact ⟨xs, .obj ha, q (.seq _ xs) rfl fun _ x => .obj (x _ _ ha)⟩)
theorem d_isLTD {d : Dv} {xs : List Dv} (hd : LTD μ d xs) (h : k (.bl true) μ) : DCl K (rIsiA K) [d, .tup [.ty "list", .ty "tuple"]] μ k := by
  cases hd with
  | lst => exact d_isiT (.lst _) (.cons (.ty _) (.cons (.ty _) .nil)) (kitAny_cons (kit_ty (r := true) (by decide +kernel)) (fun z => nomatch z) fun _ => rfl) h
  | tup => exact d_isiT (.tup _) (.cons (.ty _) (.cons (.ty _) .nil)) (kitAny_cons (kit_ty (r := false) (by decide +kernel)) (fun _ => kitAny_cons (kit_ty (r := true) (by decide +kernel)) (fun z => nomatch z) fun _ => rfl) fun z => nomatch z) h
  | obj ha => exact d_isiT (.lstM ha) (.cons (.ty _) (.cons (.ty _) .nil)) (kitAny_cons (kit_ty (r := true) (by decide +kernel)) (fun z => nomatch z) fun _ => rfl) h
theorem d_lenLTD {d : Dv} {xs : List Dv} (hd : LTD μ d xs) (h : k (.int xs.length) μ) : DCl K (rLenA K) [d] μ k := by
  cases hd with
  | lst => exact d_lenL (.lst _) h
  | tup => exact d_lenT h
  | obj ha => exact d_lenL (.obj ha) h
theorem d_tupLTD {d : Dv} {xs : List Dv} (hd : LTD μ d xs) (h : k (.tup xs) μ) : DCl K (fun us H Q => ∃ p ys, us = [V.ref p] ∧ ((SqL K H p ys ∧ ∀ l, H l = none → Q (.ref l) (upd H l (.tup ys))) ∨ (SqT K H p ys ∧ Q (.ref p) H))) [d] μ k := by
  cases hd with
  | lst => exact d_tupOf (.lst _) h
  | tup => exact d_tupOfT h
  | obj ha => exact d_tupOf (.obj ha) h
theorem d_listLTD {d : Dv} {xs : List Dv} (hd : LTD μ d xs) (h : k (.lst xs) μ) : DCl K (fun ys H Q => ∃ p zs, ys = [V.ref p] ∧ (SqL K H p zs ∨ SqT K H p zs) ∧ ∀ l, H l = none → Q (.ref l) (upd H l (.lst zs))) [d] μ k := by
  cases hd with
  | lst => exact d_listOf (.lst _) h
  | tup => exact d_listOfT h
  | obj ha => exact d_listOf (.obj ha) h
end
end DL

/-! ## list.count, list.index, xs[i] = v, for i, x in enumerate(xs) -/
namespace DL
open PySem PySem.Spec L2
/-- l.count(x) -/
def rCountD (K : Kf) : V → List V → Hp → VK → Prop := fun x xs H Q => ∃ (a : Addr) (y : V) (d : PyData) (ds : List PyData), x = V.ref a ∧ xs = [y] ∧ Dp K H (V.ref a) (.list ds) ∧ Dp K H y d ∧
  SeqAt.shaped (.list ds) = true ∧ SeqAt.shaped d = true ∧ Q (.int (ds.countP fun z => PyData.eqv z d : Nat)) H
theorem mt_countD {X : Cx} (hu : X.A.units + 65 < cLine) : MtR X "list.count" (rCountD X.K) := by
  intro pins s σ H x xs v us Q I rx rxs h
  obtain ⟨a, y, d, ds, rfl, rfl, hl, hy, sl, sd, q⟩ := h
  cases rx
  cases rxs with
  | cons ry rt =>
    rename_i uy ut
    cases rt
    obtain ⟨bs, r1⟩ := Dp.reads I d y uy hy ry
    have hxs : PyData.canLayAll0 ds = true := SeqAt.canLay_of_shaped sl
    have hroom : X.A.units + 1 + min (PyData.depthAll ds) d.depth < cLine := PyProof.Rows.room_in_shaped sd hu
    cases hl with
    | lst hs ha =>
      obtain ⟨its, rv, ⟨⟨cls, dd, data, sls⟩, n, ho, hc, hdn, hdt⟩, hlen⟩ := I.list hs
      simp only at hc hdt
      subst hc hdt
      obtain ⟨as, h4⟩ := Dp.readsAll I ds _ its ha rv
      have hmap : its.map (SeqAt.readOf s.heap) = ds := SeqAt.readsAll_map ds its as hxs h4
      refine call_meets PySem.F.slot_list_count ⟨_, ho, rfl⟩ PySem.F.entry_list_count (PySem.F.args_list_count_2 _ _)
        (SeqAt.list_countAt a its.toArray n dd sls uy (fun u => PyData.eqv (SeqAt.readOf s.heap u) d)) ⟨ho, SeqAt.items_eqAt (vs := its.toArray) h4 r1 hxs (SeqAt.canLay_of_shaped sd) hroom, ?_⟩
      have ec : its.toArray.toList.countP (fun u => PyData.eqv (SeqAt.readOf s.heap u) d) = ds.countP fun z => PyData.eqv z d := by
        rw [← hmap, List.countP_map]; rfl
      refine ⟨.int (ds.countP fun z => PyData.eqv z d : Nat), H, I.tok _, ⟨s.toks, ?_⟩, q⟩
      show Value.int ((its.toArray.toList.countP (fun u => PyData.eqv (SeqAt.readOf s.heap u) d) : Nat) : Int) s.toks = Value.int ((ds.countP fun z => PyData.eqv z d : Nat) : Int) s.toks
      rw [ec]
def Enc.bl : Enc Bool := ⟨Dv.bl, PyData.bool, 0, fun _ => by unfold DL.toPy; rfl, fun _ => by unfold PyData.canLay0; rfl, fun _ => by unfold PyData.depth; exact Nat.le_refl _, fun x y => by
  unfold PyData.eqv
  cases x <;> cases y <;> rfl⟩
theorem countP_E {α : Type} [DecidableEq α] (E : Enc α) (x : α) : ∀ xs : List α, (xs.map E.py).countP (fun z => PyData.eqv z (E.py x)) = xs.count x
  | [] => rfl
  | y :: ys => by
    rw [List.map_cons, List.countP_cons, List.count_cons, countP_E E x ys, E.eqv]
    by_cases h : y = x
    · subst h; simp
    · simp [h]
section
variable {K : Kf} {μ : M} {k : DK}
theorem d_countE {α : Type} [DecidableEq α] (E : Enc α) (hn : E.n + 1 ≤ 64) {d e : Dv} {x : α} {xs : List α} (l : SqD μ d (xs.map E.dv)) (he : e = E.dv x := by rfl) (h : k (.int (xs.count x : Nat)) μ) : DMd K (rCountD K) d [e] μ k := fun u us H Q r du ds t => by
  subst he
  cases ds with
  | cons d1 ds =>
    cases ds
    obtain ⟨a, vs, rfl, _, _⟩ := l.rep r du
    refine ⟨a, _, E.py x, xs.map E.py, rfl, rfl, l.dp r du (toPys_map E xs), d1.dp (E.toPy x), E.list.shaped hn xs, E.shaped (by omega) x, ?_⟩
    rw [countP_E E x xs]
    exact tl_pure t h r (.int _)
theorem d_indexE {α : Type} [DecidableEq α] (E : Enc α) (hn : E.n + 1 ≤ 64) {d e : Dv} {x : α} {xs : List α} {j : Nat} (l : SqD μ d (xs.map E.dv)) (hj : xs[j]? = some x) (hm : ∀ (m : Nat) (z : α), m < j → xs[m]? = some z → z ≠ x) (he : e = E.dv x := by rfl) (h : k (.int (j : Nat)) μ) : DMd K (rIndexD K) d [e] μ k := fun u us H Q r du ds t => by
  subst he
  cases ds with
  | cons d1 ds =>
    cases ds
    obtain ⟨a, vs, rfl, _, _⟩ := l.rep r du
    refine ⟨a, _, E.py x, xs.map E.py, j, E.py x, rfl, rfl, l.dp r du (toPys_map E xs), d1.dp (E.toPy x), E.list.shaped hn xs, E.shaped (by omega) x, ?_, ?_, ?_, tl_pure t h r (.int _)⟩
    · rw [List.getElem?_map, hj]; rfl
    · rw [E.eqv]; simp
    · intro m z hm1 hz
      rw [List.getElem?_map] at hz
      cases e : xs[m]? with
      | none => rw [e] at hz; cases hz
      | some w =>
        rw [e] at hz
        cases hz
        rw [E.eqv]
        exact decide_eq_false (hm m w hm1 e)
end
section
variable {X : Cx} {W : WX} {KE : XD} {e o i : Expr} {A : List Stmt} {n : En} {μ : M} {k : DK} {P : Ed} {pos pos' p p1 p2 p3 : Pos} {x1 x2 : Str} {kl : Nat}
/-- o[i] = e, o a list that may change -/
theorem js_lput (h : JE X W KE e n μ fun y μ1 => JE X W KE o n μ1 fun d μ2 => JE X W KE i n μ2 fun z μ3 => ∃ a xs kk j, d = .obj a ∧ μ3 a = some (.lst xs) ∧ z = .int kk ∧ L2.ixN xs.length kk = some j ∧ P.nx n (updM μ3 a (.lst (xs.set j y))))
    (hg : PG X (.Subscript o i pos') (gSub (cE X o) (cE X i) rSetL) := by exact pg_sub peC peC set_list)
    (hs : swapsWithSole [.Subscript o i pos'] e pos.line X.env = pure false := by rfl) (hw : swappedStores [.Subscript o i pos'] e X.env = pure none := by rfl)
    (h1 : (assignEach [.Subscript o i pos'] X.env).map (·.2) = [assign (.Subscript o i pos') X.env] := by rfl) : JS X W KE (.Assign [.Subscript o i pos'] e pos) n μ P :=
  js_of (ps_asg peC hg hs hw h1) fun σ H D ev rp t q => by
    refine h σ H _ ev rp t fun u y H1 μ1 h1 s1 r1 d1 => ?_
    refine h1 σ H1 _ (ev.step s1) r1 (t.step s1) fun w d H2 μ2 h2 s2 r2 d2 => ?_
    refine h2 σ H2 _ (ev.step (s1.trans s2)) r2 (t.step (s1.trans s2)) fun v z H3 μ3 h3 s3 r3 d3 => ?_
    obtain ⟨a, xs, kk, j, rfl, ha, rfl, hj, hk⟩ := h3
    cases d2; cases d3
    obtain ⟨vs, e1, rr⟩ := r3 _ _ ha
    have s4 := Step.mut (H := H3) (o := .lst (vs.set j u)) (u := .lst (xs.set j y)) ha
    have sA := ((s1.trans s2).trans s3).trans s4
    refine ⟨a, vs, kk, j, rfl, rfl, e1, by rw [rr.length]; exact hj, q.nx _ _ _ _ hk (ev.step sA) sA (r3.put s4 ⟨_, upd_same, ?_⟩)⟩
    have dy := (d1.step (s2.trans s3)).step s4
    have : ∀ {vs : List V} {xs : List Dv} {j : Nat}, DReps X.K (updM μ3 a (.lst (xs))) H3 vs xs → True := fun _ => trivial
    have set : ∀ {μ : M} {H : Hp} {vs : List V} {xs : List Dv} {u : V} {y : Dv} (j : Nat), DReps X.K μ H vs xs → DRep X.K μ H u y → DReps X.K μ H (vs.set j u) (xs.set j y) := by
      intro μ H vs
      induction vs with
      | nil => intro xs u y j r d; cases r; exact .nil
      | cons v vs ih =>
        intro xs u y j r d
        cases r with
        | cons h t =>
          cases j with
          | zero => exact .cons d t
          | succ j => exact .cons h (ih j t d)
    exact set j (rr.step s4) dy
/-- for i, x in enumerate(xs) -/
theorem js_forE (i1 i2 : Nat) (c : Cok kl X W) (hi1 : X.N[i1]? = some x1) (hi2 : X.N[i2]? = some x2) (ow : PassesOwn (model X.prog X.w) X.A X.env X.xe) (hm : X.mg "enumerate" = none)
    (h : JE X W KE e n μ fun d μ1 => ∃ xs, SqD μ1 d xs ∧ ∃ Iv : Nat → En → M → Prop, Mid (Iv 0) n μ1 ∧ (∀ j n' μ', Iv j n' μ' → SqD μ' d xs) ∧
      (∀ j x e μ', xs[j]? = some x → Iv j e μ' → JB X W KE A ((e.set i1 (some (.int (j : Nat)))).set i2 (some x)) μ' { nx := Mid (Iv (j + 1)), ct := Mid (Iv (j + 1)), bk := P.nx, rt := P.rt }) ∧ ∀ e μ', Iv xs.length e μ' → ∀ n', LeE n' e → P.nx n' μ')
    (hl1 : Loc X.env.scope x1 := by first | exact Or.inl rfl | exact Or.inr rfl) (hl2 : Loc X.env.scope x2 := by first | exact Or.inl rfl | exact Or.inr rfl)
    (hf1 : X.fn x1 = true ∨ X.env.scope.names.lookup x1 = some .local := by first | exact .inl rfl | exact .inr rfl) (hf2 : X.fn x2 = true ∨ X.env.scope.names.lookup x2 = some .local := by first | exact .inl rfl | exact .inr rfl)
    {kk} (hg : PG X (.Tuple [.Name x1 p1, .Name x2 p2] kk p3) (gTup X.K 2 (gCons (gName i1) (gCons (gName i2) gNil))) := by exact pg_tup (by first | rfl | assumption) (pgs_cons (pg_name (by assumption) (by assumption) (by assumption) (by assumption)) (pgs_cons (pg_name (by assumption) (by assumption) (by assumption) (by assumption)) pgs_nil)))
    (hgl : Gl X "enumerate" := by rfl) (hse : starEach [e] X.env = [(false, eval e X.env)] := by rfl) (hs : ∀ x, foldedSetIterable (.Call (.Name "enumerate" p) [e] [] pos') X.env x = pure x := by intro _; rfl) :
    JS X W KE (.For (.Tuple [.Name x1 p1, .Name x2 p2] kk p3) (.Call (.Name "enumerate" p) [e] [] pos') A [] pos) n μ P :=
  js_of (ps_for ow c.calm (pi_enum hgl hm paC hse) hg pbC hs) fun σ H D ev rp t q => by
    have h' : JA X W KE [e] n μ fun ds μ1 => ∃ d, ds = [d] ∧ ∃ xs, SqD μ1 d xs ∧ ∃ Iv : Nat → En → M → Prop, Mid (Iv 0) n μ1 ∧ (∀ j n' μ', Iv j n' μ' → SqD μ' d xs) ∧
      (∀ j x e μ', xs[j]? = some x → Iv j e μ' → JB X W KE A ((e.set i1 (some (.int (j : Nat)))).set i2 (some x)) μ' { nx := Mid (Iv (j + 1)), ct := Mid (Iv (j + 1)), bk := P.nx, rt := P.rt }) ∧ ∀ e μ', Iv xs.length e μ' → ∀ n', LeE n' e → P.nx n' μ' :=
      ja_one (h.mono fun d μ1 z => ⟨d, rfl, z⟩) (by rw [hse]; rfl)
    refine h' σ H _ ev rp t fun vs ds H1 μ1 h1 s1 r1 dd => ?_
    obtain ⟨d, rfl, xs, ok1, Iv, h0, hok, hturn, hend⟩ := h1
    cases dd with
    | cons d1 dn =>
    cases dn
    obtain ⟨a, vs1, rfl, ha1, _⟩ := ok1.rep r1 d1
    refine ⟨a, vs1, rfl, ha1, ?_⟩
    refine ⟨fun j m σ' H' => m = xs.length - j ∧ j ≤ xs.length ∧ ∃ n' μ', Mid (Iv j) n' μ' ∧ Env X.K μ' H' σ' n' ∧ Step μ H μ' H' ∧ Rep X.K μ' H' ∧ DRep X.K μ' H' (.ref a) d, ⟨xs.length, by simp, Nat.zero_le _, n, μ1, h0, ev.step s1, s1, r1, d1⟩, ?_⟩
    rintro j m σ' H' ⟨rfl, hj, n', μ', ⟨e2, le2, iv⟩, ev', st', rp', dr'⟩
    have ok' := hok j e2 μ' iv
    obtain ⟨a', vs', ea, ha', ra'⟩ := ok'.rep rp' dr'
    cases ea
    by_cases hlt : j < xs.length
    · obtain ⟨x, hx⟩ : ∃ x, xs[j]? = some x := ⟨_, List.getElem?_eq_getElem hlt⟩
      obtain ⟨v, hv, dv⟩ := ra'.get hx
      refine .inr ⟨⟨vs', v, ha', hv⟩, fun σ2 H2 => ∃ n2 μ2, Mid (Iv (j + 1)) n2 μ2 ∧ Env X.K μ2 H2 σ2 n2 ∧ Step μ H μ2 H2 ∧ Rep X.K μ2 H2 ∧ DRep X.K μ2 H2 (.ref a) d, fun σ2 H2 z => ⟨xs.length - (j + 1), by omega, rfl, hlt, z⟩, fun w H2 yv => ?_⟩
      obtain ⟨T, x', rfl, hT, rfl, hx'⟩ := yv
      have e' : x' = v := by have := hx' vs' ha'; rw [hv] at this; exact (Option.some.inj this).symm
      subst e'
      have sN : Step μ' H' μ' (upd H' T (.tup [.int (j : Nat), x'])) := Step.new hT
      refine ⟨T, [.int (j : Nat), x'], rfl, SqT.of upd_same, rfl, _, _, rfl, _, _, rfl, rfl, ?_⟩
      have ev2 : Env X.K μ' (upd H' T (.tup [.int (j : Nat), x'])) ((σ'.set i1 (some (.int (j : Nat)))).set i2 (some x')) ((e2.set i1 (some (.int (j : Nat)))).set i2 (some x)) :=
        (((ev'.le le2).step sN).set (.int _) i1).set (dv.step sN) i2
      refine hturn j x e2 μ' hx iv _ _ _ ev2 (rp'.new hT) (t.step (st'.trans sN)) ⟨fun σ2 e3 H2 μ2 a1 b1 c1 d1 => ?_, q.rt.step (st'.trans sN), fun σ2 e3 H2 μ2 a1 b1 c1 d1 => ?_, fun σ2 e3 H2 μ2 a1 b1 c1 d1 => ?_⟩
      · exact ⟨e3, μ2, a1, b1, (st'.trans sN).trans c1, d1, (dr'.step sN).step c1⟩
      · exact q.nx _ _ _ _ a1 b1 ((st'.trans sN).trans c1) d1
      · exact ⟨e3, μ2, a1, b1, (st'.trans sN).trans c1, d1, (dr'.step sN).step c1⟩
    · have ej : j = xs.length := by omega
      subst ej
      exact .inl ⟨⟨vs', ha', by rw [ra'.length]; exact Nat.le_refl _⟩, q.nx _ _ _ _ (hend e2 μ' iv n' le2) ev' st' rp'⟩
end
end DL

/-! ## a sign n times -/
namespace DL
open PySem PySem.Spec L2
def repS (c : Nat) (n : Nat) : Str := ⟨(List.replicate n c).toArray⟩
theorem repS_len (c n : Nat) : (repS c n).length = n := by
  show (List.replicate n c).toArray.size = n
  simp
theorem fold_rep (c : Nat) : ∀ (n : Nat) (acc : List Nat), (List.replicate n (#[c] : Array Nat)).foldl (· ++ ·) acc.toArray = (acc ++ List.replicate n c).toArray
  | 0, acc => by simp
  | n + 1, acc => by
    rw [List.replicate_succ, List.foldl_cons]
    have e : acc.toArray ++ #[c] = (acc ++ [c]).toArray := by simp
    rw [e, fold_rep c n (acc ++ [c]), List.append_assoc]
    rfl
def rMulSg : R2 := fun x y H Q => ∃ (c : Nat) (n : Int), x = .str ⟨#[c]⟩ ∧ y = .int n ∧ 0 ≤ n ∧ n ≤ 100000 ∧ Q (.str (repS c n.toNat)) H
theorem op_mulSg {X : Cx} : OpR X (binaryOp .Mult) rMulSg := by
  intro pins s σ H x y v u Q I rx ry h
  obtain ⟨c, n, rfl, rfl, h0, h1, q⟩ := h
  obtain ⟨t, rfl⟩ := rx
  obtain ⟨t2, rfl⟩ := ry
  have hl : (⟨#[c]⟩ : Str).length = 1 := rfl
  refine PySem.P.mul_str (by rw [decide_eq_false (by omega), decide_eq_false (by omega)]; rfl) (fun h2 h3 => ?_) (fun h2 h3 => ?_) ?_
  · rw [hl]
    have : 1 ≤ ((2 ^ 63 - 1 : Int)) / n := (Int.le_ediv_iff_mul_le (by omega)).mpr (by omega)
    omega
  · rw [hl, Nat.one_mul]
    unfold Builtin.Str.tooLong
    have := sizeLine_eq
    simp
    omega
  · by_cases z : n < 1
    · rw [if_pos z]
      have e : n = 0 := by omega
      subst e
      exact ⟨by decide, .str (repS c 0), H, I.tok _, ⟨_, rfl⟩, q⟩
    · rw [if_neg z]
      by_cases z1 : n = 1
      · subst z1
        rw [if_pos (by rfl)]
        exact ⟨.str (repS c 1), H, I, ⟨_, rfl⟩, q⟩
      · rw [if_neg (by rw [hl]; simp; omega)]
        have e := fold_rep c n.toNat []
        rw [List.nil_append] at e
        show (⟨(List.replicate n.toNat (#[c] : Array Nat)).foldl (· ++ ·) #[]⟩ : Str).length ≤ sizeLine ∧ _
        rw [show ((List.replicate n.toNat (#[c] : Array Nat)).foldl (· ++ ·) #[]) = (List.replicate n.toNat c).toArray from e]
        refine ⟨?_, .str (repS c n.toNat), H, I.tok _, ⟨_, rfl⟩, q⟩
        show (repS c n.toNat).length ≤ sizeLine
        rw [repS_len, sizeLine_eq]
        omega
section
variable {X : Cx} {W : WX} {KE : XD} {a b : Expr} {n : En} {μ : M} {k : DK} {pos : Pos} {K : Kf}
theorem je_mulSg (h : JE X W KE a n μ fun x μ1 => JE X W KE b n μ1 fun y μ2 => DOp X.K rMulSg x y μ2 k) : JE X W KE (.BinOp a .Mult b pos) n μ k := je_bin op_mulSg h
theorem d_mulSg {c : Nat} {i : Int} (h0 : 0 ≤ i) (h1 : i ≤ 100000) (h : k (.str (repS c i.toNat)) μ) : DOp K rMulSg (.str ⟨#[c]⟩) (.int i) μ k := fun u v H Q r du dv t => by
  cases du; cases dv
  exact ⟨c, i, rfl, rfl, h0, h1, tl_pure t h r (.str _)⟩
end
theorem swaps_list {es : List Expr} {p : Pos} {t : Option Expr} {l : Nat} {env : PySem.Env} : swapsWith (.List es p) t l env = pure false := rfl
theorem swaps_bin {a b : Expr} {op : Operator} {p : Pos} {t : Option Expr} {l : Nat} {env : PySem.Env} : swapsWith (.BinOp a op b p) t l env = pure false := rfl
end DL

/-! ## exceptions with their own __init__ -/
namespace DL
open PySem PySem.Spec L2
/-- what is known of GateError.__init__ -/
structure GeI (K : Kf) (mg : Str → Option Value) (GE : Addr) : Prop where
  g : mg "GateError" = some (.ref GE)
  s : PySem.W.specialIn K (.ref GE) "__getattribute__" = some (some (.builtin "type.__getattribute__"))
  r : PySem.W.readsIn K GE (.type "type") = true
  f : PySem.W.findCls K (.ref GE) (.type "type") "__init__" = some (.val (.builtin "ValueError.__init__"))
/-- an exception class with its own __init__ f -/
structure XIn (K : Kf) (mg : Str → Option Value) (x : Str) (C f : Addr) : Prop where
  o : OexC K C
  g : mg x = some (.ref C)
  i : PySem.W.findIn K (.ref C) "__init__" = some (some (.ref f))
  t : PySem.W.typeIn K (.ref f) = some (.type "function")
section
variable {X : Cx} {o e : Expr} {es : List Expr} {to te : TE} {ta : TA} {f : Str} {p p' p1 p2 pos : Pos}
theorem pe_geinit {GE : Addr} {pl : Sem Bool} (G : GeI X.K X.mg GE) (hg : Gl X "GateError") (ha : PA X (e :: es) ta)
    (hc : eval (.Call (.Attribute (.Name "GateError" p1) "__init__" p2) (e :: es) [] pos) X.env = (do
      let ov ← eval (.Name "GateError" p1) X.env
      standAt p2.atName
      let (f, first) ← holding [ov] (getMethod ov "__init__" pl)
      callWith pos f first (backTo pos (starEach (e :: es) X.env)) (backToKw pos (keywordEach [] X.env))) := by rfl)
    (he : starEach (e :: es) X.env = (false, eval e X.env) :: starEach es X.env := by rfl) (hpl : (backTo pos (starEach es X.env)).any (·.1) = false := by rfl) :
    PE X (.Call (.Attribute (.Name "GateError" p1) "__init__" p2) (e :: es) [] pos) (tVeI X.K ta) := by
  refine ⟨fun pins s σ H Q I h => ?_⟩
  refine PySem.W.methodCall_KW (ld_glob I hg G.g ?_ (by decide)) hc
  refine PySem.W.method_cls I.kIn G.s (PySem.W.cls_value I.kIn G.r G.f (by decide +kernel) ?_)
  show wpAny _ _ (callWith pos (Value.builtin "ValueError.__init__") [] (backTo pos (starEach (e :: es) X.env)) []) _ _ _
  refine PyProof.Rows.callWith_method1 (thn (ha.run pos pins _ σ H _ (I.tok _) h) fun us s1 ⟨vs, H1, I1, r1, a, C, ws, ev, hl, T, ea, q⟩ => ?_) he hpl
  subst ev
  cases r1 with
  | @cons _ u0 _ ur ra rw' =>
    obtain rfl : u0 = Value.ref a := ra
    have hlen : ur.length ≤ sizeLine := by
      rw [← Paired.length rw', sizeLine_eq]
      omega
    exact oinit_ok T I1 ea hlen fun s' J => ⟨.non, H1, J, rfl, q⟩
end
/-- the promise of an __init__ that stores one field -/
def sp1 (fld : Str) (C : Addr) : Sp := fun vs H Q _ => ∃ (a : Addr) (v : V), vs = [.ref a, v] ∧ H a = some (exo a C none) ∧ ∀ dx, H dx = none → dx ≠ a → Q .non (upd (upd H dx (exd dx [(fld, v)])) a (exo a C (some dx)))
/-- two fields -/
def sp2 (f1 f2 : Str) (C : Addr) : Sp := fun vs H Q _ => ∃ (a : Addr) (v w : V), vs = [.ref a, v, w] ∧ H a = some (exo a C none) ∧ ∀ dx, H dx = none → dx ≠ a → Q .non (upd (upd (upd H dx (exd dx [(f1, v)])) a (exo a C (some dx))) dx (exd dx [(f2, w), (f1, v)]))
structure DExI (P : Program) (w : World) (K : Kf) (mg : Str → Option Value) (base : Heap) (k : Nat) (x : Str) (C : Addr) (sp : Sp) : Prop where
  ex : ∃ (f : Addr) (fd : FuncData) (ps : List Str), FnOk P w K mg base (L2.CX P w) k f fd ps sp ∧ Binds K fd ps [] ∧ XIn K mg x C f
theorem passF {P : Program} {w : World} {X : Cx} : Passes (L2.CX P w) X (fun _ _ _ => False) := fun _ _ _ _ _ _ _ h => by
  obtain ⟨_, _, _, _, _, _, _, _, _, _, _, _, z⟩ := h
  exact z.elim
theorem exo_gone {H1 : Hp} {a dx C : Addr} {o1 o2 o3 o4 : HO} (ha : H1 a = none) (ne : dx ≠ a) : upd (del (upd (upd (upd H1 a o1) dx o2) a o3) a) dx o4 = upd H1 dx o4 := by
  funext b
  by_cases z : b = dx
  · rw [z, upd_same, upd_same]
  · rw [upd_ne z, upd_ne z]
    by_cases y : b = a
    · rw [y, del_same, ha]
    · rw [del_ne y, upd_ne y, upd_ne z, upd_ne y]
theorem exo_gone2 {H1 : Hp} {a dx C : Addr} {o1 o2 o3 o4 o5 : HO} (ha : H1 a = none) (ne : dx ≠ a) : upd (del (upd (upd (upd (upd H1 a o1) dx o2) a o3) dx o5) a) dx o4 = upd H1 dx o4 := by
  funext b
  by_cases z : b = dx
  · rw [z, upd_same, upd_same]
  · rw [upd_ne z, upd_ne z]
    by_cases y : b = a
    · rw [y, del_same, ha]
    · rw [del_ne y, upd_ne z, upd_ne y, upd_ne z, upd_ne y]
section
variable {X : Cx} {W : WX} {KE : XD} {e e1 e2 : Expr} {es : List Expr} {n : En} {μ : M} {k : DK} {P : Ed} {p pos pos' : Pos} {x f fld f1 f2 : Str} {kl j : Nat} {C : Addr}
theorem js_raiseI1 (c : Cok kl X W) (F : DExI X.prog X.w X.K X.mg X.base j x C (sp1 fld C)) (hj : j + 1 ≤ kl) (h : JE X W KE e n μ fun d μ1 => KE (.ref C) [(fld, d)] n μ1) (hg : Gl X x := by rfl)
    (hdb : (x == ("__debug__" : Str)) = false := by decide) (hs : starEach [e] X.env = (false, eval e X.env) :: starEach [] X.env := by rfl) (hpl : (backTo pos (starEach [] X.env)).any (·.1) = false := by rfl) : JS X W KE (.Raise (some (.Call (.Name x p) [e] [] pos)) none pos') n μ P := by
  obtain ⟨fI, fd, ps, F1, hb, T⟩ := F.ex
  refine js_of (ps_raise c.calm c.tk (pmk_oex T.o T.i T.t F1 (c.room.mono hj) hb .nil passF hg T.g paC hdb hs hpl)) fun σ H D ev rp t q => ?_
  have h' : JA X W KE [e] n μ fun ds μ1 => ∃ d, ds = [d] ∧ KE (.ref C) [(fld, d)] n μ1 := ja_one (h.mono fun d μ1 z => ⟨d, rfl, z⟩) hs
  refine h' σ H _ ev rp t fun vs ds H1 μ1 h1 s1 r1 dd => ?_
  obtain ⟨d, rfl, hk⟩ := h1
  cases dd with
  | cons d1 dn =>
    cases dn
    refine ⟨by simp, fun a ha => ⟨a, _, rfl, upd_same, fun dx hdx ne => ⟨rfl, dx, _, upd_same, (upd_ne ne).trans upd_same, by rw [upd_ne ne] at hdx; exact hdx, ?_⟩⟩⟩
    have hdx1 : H1 dx = none := by rw [upd_ne ne] at hdx; exact hdx
    rw [exo_gone (C := C) ha ne]
    have sN : ∀ o, Step μ1 H1 μ1 (upd H1 dx o) := fun o => Step.new hdx1
    exact t (.ref C) _ (some dx) σ n _ μ1 hk (ev.step (s1.trans (sN _))) (s1.trans (sN _)) (r1.new hdx1) ⟨_, upd_same, r1.free hdx1, .cons (d1.step (sN _)) .nil⟩
theorem js_raiseI2 (c : Cok kl X W) (F : DExI X.prog X.w X.K X.mg X.base j x C (sp2 f1 f2 C)) (hj : j + 1 ≤ kl) (h : JE X W KE e1 n μ fun d μ1 => JE X W KE e2 n μ1 fun d2 μ2 => KE (.ref C) [(f2, d2), (f1, d)] n μ2) (hg : Gl X x := by rfl)
    (hdb : (x == ("__debug__" : Str)) = false := by decide) (hs : starEach [e1, e2] X.env = (false, eval e1 X.env) :: starEach [e2] X.env := by rfl) (hs2 : starEach [e2] X.env = (false, eval e2 X.env) :: starEach [] X.env := by rfl) (hpl : (backTo pos (starEach [e2] X.env)).any (·.1) = false := by rfl) : JS X W KE (.Raise (some (.Call (.Name x p) [e1, e2] [] pos)) none pos') n μ P := by
  obtain ⟨fI, fd, ps, F1, hb, T⟩ := F.ex
  refine js_of (ps_raise c.calm c.tk (pmk_oex T.o T.i T.t F1 (c.room.mono hj) hb .nil passF hg T.g paC hdb hs hpl)) fun σ H D ev rp t q => ?_
  have h' : JA X W KE [e1, e2] n μ fun ds μ2 => ∃ d d2, ds = [d, d2] ∧ KE (.ref C) [(f2, d2), (f1, d)] n μ2 := ja_cons (h.mono fun d μ1 z => ja_one (z.mono fun d2 μ2 z2 => ⟨d, d2, rfl, z2⟩) hs2) hs
  refine h' σ H _ ev rp t fun vs ds H1 μ1 h1 s1 r1 dd => ?_
  obtain ⟨d, d2, rfl, hk⟩ := h1
  cases dd with
  | cons d1 dn =>
    cases dn with
    | cons d3 dn =>
    cases dn
    refine ⟨by simp, fun a ha => ⟨a, _, _, rfl, upd_same, fun dx hdx ne => ⟨rfl, dx, _, (upd_ne ne.symm).trans upd_same, upd_same, by rw [upd_ne ne] at hdx; exact hdx, ?_⟩⟩⟩
    have hdx1 : H1 dx = none := by rw [upd_ne ne] at hdx; exact hdx
    rw [exo_gone2 (C := C) ha ne]
    have sN : ∀ o, Step μ1 H1 μ1 (upd H1 dx o) := fun o => Step.new hdx1
    exact t (.ref C) _ (some dx) σ n _ μ1 hk (ev.step (s1.trans (sN _))) (s1.trans (sN _)) (r1.new hdx1) ⟨_, upd_same, r1.free hdx1, .cons (d3.step (sN _)) (.cons (d1.step (sN _)) .nil)⟩
/-- the attribute of an exception -/
theorem pe_xfld {te : TE} (he : PE X e te) (hb : attributeBase e f X.env (eval e X.env) = eval e X.env) : PE X (.Attribute e f pos) (fun σ H Q => te σ H fun x H1 => ∃ (z C dd : Addr) (vs : List (Str × V)) (v : V), x = .ref z ∧ H1 z = some (ExD (.ref C) (some dd) z) ∧ H1 dd = some (.xd vs) ∧ ExcC X.K C ∧ PySem.W.findIn X.K (.ref C) f = some none ∧ vs.lookup f = some v ∧ Q v H1) := by
  refine ⟨fun pins s σ H Q I h => ?_⟩
  refine attr_of hb (thn (he.run pins s σ H _ I h) fun u s1 hh => ?_)
  obtain ⟨x, H1, I1, rx, z, C, dd, vs, v, ex, hz, hd, E, nf, hl, q⟩ := hh
  subst ex
  obtain rfl : u = Value.ref z := rx
  obtain ⟨⟨oe, ws, ge, zc, dat⟩, _, _⟩ := I1.hok z _ hz
  obtain ⟨mA, hns, hr⟩ := (show ∃ mA, s1.heap.Ns1 dd mA ∧ _ from I1.hok dd _ hd)
  obtain ⟨od, ho, hlk⟩ := lookIn_ns hns
  obtain ⟨w, hw, rw⟩ := RelO.some_of (v := v) (o := mA f) (by rw [← hl]; exact hr f)
  have J : PySem.W.InstAt s1.heap z oe C (some od) := ⟨ge, zc.1, by unfold PySem.W.notCls; rw [dat] <;> rfl, by rw [zc.2]; exact ho⟩
  exact HandSPX.exc_get I1.kIn J E.hg E.hk E.hs (PySem.W.findObj_own E.hd nf rfl (by rw [hlk, hw])) (handed_of rw) ⟨v, H1, I1.tok _, rw, q⟩
theorem je_xfld (h : JE X W KE e n μ fun d μ1 => ∃ C fs v, d = .exc C fs ∧ ExcC X.K C ∧ PySem.W.findIn X.K (.ref C) f = some none ∧ fs.lookup f = some v ∧ k v μ1) (hb : attributeBase e f X.env (eval e X.env) = eval e X.env := by rfl) : JE X W KE (.Attribute e f pos) n μ k :=
  je_of (pe_xfld peC hb) fun σ H Q ev rp t q => by
    refine h σ H _ ev rp t fun u x H1 μ1 h1 s1 r1 d1 => ?_
    obtain ⟨C, fs, v, rfl, E, nf, hl, hk⟩ := h1
    cases d1 with
    | exc0 hz nz => cases hl
    | exc1 hz nz hd nd rr =>
      obtain ⟨w, e1, e2⟩ := rr.get hl
      exact ⟨_, C, _, _, w, rfl, hz, hd, E, nf, e1, q _ _ _ _ hk s1 r1 e2⟩
end
end DL

/-! ## max(xs, default=d) -/
namespace DL
open PySem PySem.Spec L2 PyProof.Rows
theorem args_maxd (a d : Value) : argsOk "max" ⟨[a], [(Str.ofString "default", d)]⟩ := by unfold argsOk; kernel_rfl
section
variable {prog : Program} {w : World} {A : Around} {R : Result → Shared → Prop} {I : Addr} {fp wr : List Addr} {n : Nat} {Pq : Nat → Value → Prop} {Sq : Nat → Heap → Prop} {d : Value}
/-- what the loop holds behind j turns -/
def HeldD (bt : Nat → Nat → Bool) (Pq : Nat → Value → Prop) (j : Nat) (old : Array Value) : Prop := (j = 0 ∧ old = #[]) ∨ ∃ i vb, j = i + 1 ∧ old = #[vb, vb] ∧ Pq (argBest bt i) vb
theorem maxd_loop (W : Walks prog w A.in1 I fp wr n Pq Sq) (bt : Nat → Nat → Bool) (hc : CmpOf prog w A.in1 .Gt Pq bt) (S : Addr) (hS : S ∉ fp) :
    ∀ (k j : Nat) (s : Shared) (old : Array Value) (c : Nat), n - j = k → j ≤ n → Sq j s.heap → HeldD bt Pq j old → s.heap.get? S = some { cls := .type "list", dict := none, data := .seq old c, slots := #[] } →
    (∀ v h' tk, (n = 0 → v = d) → (0 < n → Pq (argBest bt (n - 1)) v) → (∀ b o, b ∉ wr → b ≠ S → s.heap.get? b = some o → h'.get? b = some o) → R (.ok (.ret v)) { s with heap := h', toks := tk }) →
    codeAny (model prog w) A (.builtin "max.loop" ⟨[.ref I, .none, .ref S], [(Str.ofString "default", d)]⟩) R s := by
  have nm : (toString "max" ++ toString ".loop" : String) = "max.loop" := by decide
  have nw : S ∉ wr := fun z => hS (W.sub _ z)
  intro k
  induction k with
  | zero =>
    intro j s old c ek lj st hd gS out
    obtain rfl : j = n := by omega
    apply codeAny_builtin F.entry_max_loop
    rw [Around.under_plainId F.plain_max_loop _]
    show wpAny _ A.in1 (seqItems? (.ref S) >>= _) _ _ s
    apply wpAny_bind
    refine wpAny_seqItems gS rfl ?_
    show wpAny _ A.in1 (tryCatch (pyNext (.ref I)) _ >>= _) _ _ s
    apply wpAny_bind
    apply wpAny_tryCatch
    refine W.done s _ _ st fun h1 tk k1 => ?_
    rcases hd with ⟨rfl, rfl⟩ | ⟨i, vb, rfl, rfl, pv⟩
    · refine wpAny_bind (wpAny_rule (wpAny_pure ?_))
      exact out d _ tk (fun _ => rfl) (fun z => absurd z (Nat.lt_irrefl _)) fun b o hb _ e => k1 b o hb e
    · show wpAny _ A.in1 (updateSeq S (fun _ => #[]) >>= _) _ _ _
      apply wpAny_bind
      refine wpAny_updateSeq (k1 S _ nw gS) rfl (wpAny_bind (wpAny_letGo (wpAny_pure ?_)))
      refine out vb _ tk (fun z => absurd z (Nat.succ_ne_zero _)) (fun _ => pv) fun b o hb hne e => ?_
      rw [Heap.get?_update_other _ _ (Ne.symm hne)]
      exact k1 b o hb e
  | succ k ih =>
    intro j s old c ek lj st hd gS out
    have jn : j < n := by omega
    apply codeAny_builtin F.entry_max_loop
    rw [Around.under_plainId F.plain_max_loop _]
    show wpAny _ A.in1 (seqItems? (.ref S) >>= _) _ _ s
    apply wpAny_bind
    refine wpAny_seqItems gS rfl ?_
    show wpAny _ A.in1 (tryCatch (pyNext (.ref I)) _ >>= _) _ _ s
    apply wpAny_bind
    apply wpAny_tryCatch
    refine W.item j s _ _ jn st fun v h1 tk pv st1 k1 => ?_
    have gS1 := k1 S _ nw gS
    have put : ∀ (f : Array Value → Array Value) (h2 : Heap), h2 = h1.update S (Obj.mapSeq f) → ∀ b ∈ fp, ∀ o, h1.get? b = some o → h2.get? b = some o := fun f h2 e b hb o q => by
      subst e
      rw [Heap.get?_update_other _ _ (fun z : S = b => hS (z ▸ hb))]
      exact q
    rcases hd with ⟨rfl, rfl⟩ | ⟨i, vb, rfl, rfl, pb⟩
    · show wpAny _ A.in1 (updateSeq S (fun _ => #[v, v]) >>= _) _ _ _
      apply wpAny_bind
      refine wpAny_updateSeq gS1 rfl ?_
      rw [nm]
      refine wpAny_pure ⟨plainId_quiet F.plain_max_loop _, ih 1 _ #[v, v] _ (by omega) jn (W.frame _ _ _ st1 fun b hb o q => put _ _ rfl b hb o q) (.inr ⟨0, v, rfl, rfl, pv⟩) (Heap.get?_update_self _ gS1 rfl) fun v' h2 tk2 z0 z1 k2 => ?_⟩
      exact out v' h2 tk2 z0 z1 fun b o hb hne e => k2 b o hb hne (by rw [Heap.get?_update_other _ _ (Ne.symm hne)]; exact k1 b o hb e)
    · show wpAny _ A.in1 (tryCatch (holding [v, v] (richCompare .Gt v vb >>= _)) _ >>= _) _ _ _
      apply wpAny_bind
      refine wpAny_tryCatch (wpAny_holding (wpAny_bind (hc (i + 1) (argBest bt i) v vb _ _ _ pv pb ?_)))
      refine wpAny_bind (wpAny_holding (wpAny_truthy_bool (wpAny_bind (wpAny_letGo (wpAny_pure ?_)))))
      cases q : bt (i + 1) (argBest bt i) with
      | true =>
        rw [if_pos rfl]
        apply wpAny_bind
        refine wpAny_updateSeq gS1 rfl (wpAny_bind (wpAny_letGo ?_))
        rw [nm]
        refine wpAny_pure ⟨plainId_quiet F.plain_max_loop _, ih (i + 2) _ #[v, v] _ (by omega) jn (W.frame _ _ _ st1 fun b hb o q => put _ _ rfl b hb o q) (.inr ⟨i + 1, v, rfl, rfl, by simp only [argBest, q, if_true]; exact pv⟩) (Heap.get?_update_self _ gS1 rfl) fun v' h2 tk2 z0 z1 k2 => ?_⟩
        exact out v' h2 tk2 z0 z1 fun b o hb hne e => k2 b o hb hne (by rw [Heap.get?_update_other _ _ (Ne.symm hne)]; exact k1 b o hb e)
      | false =>
        rw [if_neg Bool.false_ne_true]
        refine wpAny_bind (wpAny_letGo ?_)
        rw [nm]
        refine wpAny_pure ⟨plainId_quiet F.plain_max_loop _, ih (i + 2) _ #[vb, vb] c (by omega) jn st1 (.inr ⟨i + 1, vb, rfl, rfl, by simp only [argBest, q]; exact pb⟩) gS1 fun v' h2 tk2 z0 z1 k2 => ?_⟩
        exact out v' h2 tk2 z0 z1 fun b o hb hne e => k2 b o hb hne (k1 b o hb e)
end
section
variable {prog : Program} {w : World} {A : Around} {E : Value → Shared → Prop} {s : Shared} {d : Value}
theorem maxd_go {x : Value} {Q : Value → Shared → Prop} (nm : (toString "max" ++ toString ".loop" : String) = "max.loop")
    (h : wpAny (model prog w) A.in1 (pyIter x) (fun it s2 => ∃ I fp wr n Pq Sq bt, it = .ref I ∧ Walks prog w A.in1 I fp wr n Pq Sq ∧ Sq 0 s2.heap ∧ (∀ b ∈ fp, b < s2.heap.objs.size) ∧ CmpOf prog w A.in1 .Gt Pq bt ∧
      ∀ v h' tk, (n = 0 → v = d) → (0 < n → Pq (argBest bt (n - 1)) v) → (∀ b o, b ∉ wr → s2.heap.get? b = some o → h'.get? b = some o) → Q v { s2 with heap := h', toks := tk }) E s) :
    wpAny (model prog w) A.in1 (Builtin.«max» ⟨[x], [(Str.ofString "default", d)]⟩) (fun fin s' => match fin with
      | .done f => (match (Except.ok f : Result) with | .ok (.ret v) => Q v s' | .ok _ => False | .error e => E e s')
      | .again c' => c'.quiet = true ∧ codeAny (model prog w) A c' (fun r s' => match r with | .ok (.ret v) => Q v s' | .ok _ => False | .error e => E e s') s') E s := by
  show wpAny _ A.in1 (Builtin.Builtins.bindParams "max" ["key", "default"] 0 ⟨[], [(Str.ofString "default", d)]⟩ >>= _) _ _ s
  refine wpAny_bind (wpAny_of_eq (show Builtin.Builtins.bindParams "max" ["key", "default"] 0 ⟨[], [(Str.ofString "default", d)]⟩ = pure [none, some d] from by kernel_rfl) ?_)
  refine wpAny_bind (wpAny_pure (wpAny_bind (wpAny_mono h (fun it s2 h2 => ?_) fun _ _ e => e)))
  obtain ⟨I, fp, wr, n, Pq, Sq, bt, rfl, W, st, hfp, hc, out⟩ := h2
  refine wpAny_bind (wpAny_newObj_type ?_)
  rw [nm]
  refine wpAny_pure ⟨plainId_quiet F.plain_max_loop _, maxd_loop W bt hc s2.heap.objs.size (fun z => Nat.lt_irrefl _ (hfp _ z)) n 0 _ #[] _ rfl (Nat.zero_le _) (W.frame _ _ _ st fun b _ o e => Heap.get?_push_of_some _ e) (.inl ⟨rfl, rfl⟩) (Heap.get?_push_size _ rfl) fun v h' tk z0 z1 k => ?_⟩
  exact out v h' tk z0 z1 fun b o hb e => k b o hb (Nat.ne_of_lt (Heap.lt_size e)) (Heap.get?_push_of_some _ e)
theorem call_maxd {x : Value} {Q : Value → Shared → Prop}
    (h : wpAny (model prog w) A.in1 (pyIter x) (fun it s2 => ∃ I fp wr n Pq Sq bt, it = .ref I ∧ Walks prog w A.in1 I fp wr n Pq Sq ∧ Sq 0 s2.heap ∧ (∀ b ∈ fp, b < s2.heap.objs.size) ∧ CmpOf prog w A.in1 .Gt Pq bt ∧
      ∀ v h' tk, (n = 0 → v = d) → (0 < n → Pq (argBest bt (n - 1)) v) → (∀ b o, b ∉ wr → s2.heap.get? b = some o → h'.get? b = some o) → Q v { s2 with heap := h', toks := tk }) E s) :
    wpAny (model prog w) A (call (.builtin "max") [x] [(Str.ofString "default", d)]) Q E s := by
  have nm : (toString "max" ++ toString ".loop" : String) = "max.loop" := by decide
  apply wpAny_call
  apply codeAny_call_builtin F.plain_max F.entry_max
  simp only [checkBuiltinCall, F.kind_max]
  have ok := args_maxd x d
  unfold argsOk at ok
  cases sg : Manifest.signature? "max" with
  | none => exact wpAny_pure (maxd_go nm h)
  | some g =>
    rw [sg] at ok
    show wpAny _ A.in1 (Bind.checkArgs "max" g ⟨[x], [(Str.ofString "default", d)]⟩) _ _ s
    rw [show Bind.checkArgs "max" g ⟨[x], [(Str.ofString "default", d)]⟩ = pure () from ok]
    exact wpAny_pure (maxd_go nm h)
end
end DL
namespace DL
open PySem PySem.Spec L2
def rMaxDf (K : Kf) : List V → List V → Hp → VK → Prop := fun xs zs H Q => ∃ (a : Addr) (ns : List Int) (d : Int), xs = [.ref a] ∧ zs = [.int d] ∧ SqL K H a (ns.map V.int) ∧ ∀ m, (ns = [] → m = d) → (ns ≠ [] → m ∈ ns ∧ ∀ y ∈ ns, y ≤ m) → Q (.int m) H
theorem call_maxDf {X : Cx} (hc : X.calm = true) : CallRK X (.builtin "max") [Str.ofString "default"] (rMaxDf X.K) := by
  intro pins s σ H xs zs us ws Q I r rz h
  obtain ⟨a, ns, d, rfl, rfl, hs, q⟩ := h
  obtain ⟨its, rv, hl0, _⟩ := I.list hs
  rw [Vals.ref1 r]
  cases rz with
  | cons rd rn =>
    cases rn
    obtain ⟨td, rfl⟩ := rd
    have hl := hl0.isList
    have hi := rv.ints
    obtain ⟨zs, e⟩ := hi.allInts.items
    have hn : numsOf (PySem.intItems zs).toList = ns := by rw [← e]; exact hi.numsOf
    rw [nums_intItems] at hn
    subst hn
    rw [e] at hl
    show wpAny _ _ (call (.builtin "max") [.ref a] [(Str.ofString "default", Value.int d td)]) _ _ _
    refine call_maxd (PySem.iter_intList hl fun s2 e2 st hfp hlI => ?_)
    subst e2
    refine ⟨_, _, _, _, _, _, _, rfl, Walks.list (A := X.A.in1) (I.ok.hd hc) _ a hlI (PySem.intItems zs), st, hfp, CmpOf.ints_gt (PySem.numAt zs) (fun _ _ => PySem.intItems_at), fun v h' tk z0 z1 k => ?_⟩
    have kept := PySem.old_kept k
    have hsz : (PySem.intItems zs).size = zs.size := by simp [PySem.intItems]
    by_cases z : zs.size = 0
    · have hv := z0 (by rw [hsz]; exact z)
      subst hv
      refine ⟨.int d, H, I.kept kept, ⟨_, rfl⟩, q d (fun _ => rfl) fun y => absurd ?_ y⟩
      rw [List.map_eq_nil_iff]
      exact List.eq_nil_of_length_eq_zero (by simpa using z)
    · have hv := z1 (by rw [hsz]; omega)
      obtain ⟨t, rfl⟩ := PySem.intItems_at hv
      obtain ⟨h1, h2⟩ := argBest_gt (PySem.numAt zs) ((PySem.intItems zs).size - 1)
      refine ⟨.int _, H, I.kept kept, ⟨_, rfl⟩, q _ (fun y => absurd (congrArg List.length y) (by simp; simpa using z)) fun _ => ⟨?_, fun y hy => ?_⟩⟩
      · rw [PySem.numAt_eq]; exact PySem.getD_mem (by rw [List.length_map, Array.length_toList]; omega)
      · obtain ⟨j, hj, rfl⟩ := PySem.mem_getD hy
        rw [List.length_map, Array.length_toList] at hj
        rw [← PySem.numAt_eq]; exact h2 j (by omega)
section
variable {X : Cx} {W : WX} {KE : XD} {e f : Expr} {n : En} {μ : M} {k : DK} {p pos kp : Pos} {kl : Nat}
/-- max(e, default=f) -/
theorem je_maxDf (c : Cok kl X W) (hm : X.mg "max" = none) (h : JE X W KE e n μ fun d μ1 => JE X W KE f n μ1 fun z μ2 => ∃ ns i, SqD μ2 d (ns.map Dv.int) ∧ z = .int i ∧ ∀ m, (ns = [] → m = i) → (ns ≠ [] → m ∈ ns ∧ ∀ y ∈ ns, y ≤ m) → k (.int m) μ2)
    (hg : Gl X "max" := by rfl)
    (he : backTo pos (starEach [e] X.env) = (false, eval e X.env) :: backTo pos (starEach [] X.env) := by rfl) (hpl : (backTo pos (starEach [e] X.env)).any (·.1) = false := by rfl)
    (hall : (backToKw pos (keywordEach [⟨some "default", f, kp⟩] X.env)).all (·.1.isSome) = true := by rfl) (hnone : (backToKw pos (keywordEach [⟨some "default", f, kp⟩] X.env)).any (·.1.isNone) = false := by rfl) (hks : (backToKw pos (keywordEach [⟨some "default", f, kp⟩] X.env)).filterMap (·.1) = [Str.ofString "default"] := by rfl)
    (hs : starEach [e] X.env = (false, eval e X.env) :: starEach [] X.env := by rfl) : JE X W KE (.Call (.Name "max" p) [e] [⟨some "default", f, kp⟩] pos) n μ k :=
  je_of (pe_callBK (call_maxDf c.calm) hg hm PyProof.Rows.boot_max paC (pk_cons peC pk_nil) (by decide) (by decide) he hpl hall hnone hks) fun σ H Q ev rp t q => by
    have h' : JA X W KE [e] n μ fun ds μ1 => ∃ d, ds = [d] ∧ JE X W KE f n μ1 fun z μ2 => ∃ ns i, SqD μ2 d (ns.map Dv.int) ∧ z = .int i ∧ ∀ m, (ns = [] → m = i) → (ns ≠ [] → m ∈ ns ∧ ∀ y ∈ ns, y ≤ m) → k (.int m) μ2 := ja_one (h.mono fun d μ1 z => ⟨d, rfl, z⟩) hs
    refine h' σ H _ ev rp t fun us ds H1 μ1 h1 s1 r1 dd => ?_
    obtain ⟨d, rfl, h1⟩ := h1
    cases dd with
    | cons d1 dn =>
      cases dn
      refine h1 σ H1 _ (ev.step s1) r1 (t.step s1) fun v z H2 μ2 h2 s2 r2 d2 => ?_
      obtain ⟨ns, i, l, rfl, hk⟩ := h2
      cases d2
      obtain ⟨a, vs, rfl, ha, ra⟩ := l.rep r2 (d1.step s2)
      have ei := ra.ints
      subst ei
      exact ⟨a, ns, i, rfl, rfl, ha, fun m z0 z1 => q _ _ _ _ (hk m z0 z1) (s1.trans s2) r2 (.int _)⟩
end
end DL

/-! ## the same objects, list() that stays mutable, a, b, c = e, not in -/
namespace DL
open PySem PySem.Spec L2
theorem InsD.ext {μ μ' : M} {d : Dv} {C : Addr} {fs : List (Str × Dv)} (h : InsD μ d C fs) (e : ExtM μ μ') : InsD μ' d C fs := by
  cases h with
  | ins => exact .ins _ _
  | obj h => exact .obj (e _ _ h)
/-- the same object -/
def DSame : Eqv := fun x y _ => ∃ a, x = .ref a ∧ y = .ref a
theorem mon_same : Mon DSame := fun _ _ _ _ _ d => d
theorem eqG_same {X : Cx} : EqG X 0 DSame := by
  intro A pins s σ H x y u v sb I rx ry d
  obtain ⟨a, rfl, rfl⟩ := d
  cases rx
  cases ry
  exact SeqAt.EqAt.same (A := A) (s := s) (.ref a) X.prog X.w X.xe _ ⟨rfl, H, I, Ext.rfl'⟩
def rSame : R2 := rEqG (DList DSame)
theorem op_same {X : Cx} (hr : Room 1 X.A) : OpR X (compareOp .Eq) rSame := op_eqG (rcG_list mon_same eqG_same) hr
theorem Step.ofExt {μ : M} {H H' : Hp} (e : Ext H H') : Step μ H μ H' := ⟨fun a o h n => ⟨e a o h, n⟩, fun a o kvs h n => ⟨e a o h, n⟩⟩
section
variable {X : Cx} {W : WX} {KE : XD} {e a b : Expr} {n : En} {μ : M} {k : DK} {pos : Pos} {kl : Nat} {K : Kf} {P : Ed}
theorem je_same (c : Cok kl X W) (hk : 1 ≤ kl) (h : JE X W KE a n μ fun x μ1 => JE X W KE b n μ1 fun y μ2 => DOp X.K rSame x y μ2 k) : JE X W KE (.Compare a [.Eq] [b] pos) n μ k := je_cmp (op_same (c.room.mono hk)) (nomark _) h
theorem Rep.ofExt {H H' : Hp} (r : Rep K μ H) (e : Ext H H') : Rep K μ H' := fun a o h => by
  have t := r a o h
  cases q : H a with
  | none => exact absurd q t.tracked
  | some u => exact t.step (Step.ofExt e) ((e a u q).trans q.symm)
theorem objs_refs {H : Hp} : ∀ {as : List Addr} {vs : List V}, DReps K μ H vs (as.map Dv.obj) → vs = as.map V.ref
  | [], _, h => by cases h; rfl
  | a :: as, _, h => by
    cases h with
    | cons h t =>
      cases h
      rw [objs_refs t]; rfl
theorem d_same {x y : Dv} {as : List Addr} (lx : LsE μ x (as.map Dv.obj)) (ly : LsE μ y (as.map Dv.obj)) (h : k (.bl true) μ) : DOp K rSame x y μ k := fun u v H Q r du dv t => by
  obtain ⟨a, vs, rfl, ha, ra⟩ := lx.rep r du
  obtain ⟨b, ws, rfl, hb, rb⟩ := ly.rep r dv
  obtain rfl := objs_refs ra
  obtain rfl := objs_refs rb
  refine ⟨⟨a, b, _, _, rfl, rfl, ha, hb, rfl, fun i p q h1 h2 => ?_⟩, fun H' e => ?_⟩
  · rw [h1] at h2
    cases h2
    rw [List.getElem?_map] at h1
    obtain ⟨z, _, rfl⟩ := Option.map_eq_some_iff.mp h1
    exact ⟨z, rfl, rfl⟩
  · exact t _ _ _ _ h (Step.ofExt e) (r.ofExt e) (.bl _)
/-- list(..) that stays mutable -/
theorem d_listM {x : Dv} {xs : List Dv} (l : SqD μ x xs) (h : ∀ p, μ p = none → k (.obj p) (updM μ p (.lst xs))) : DCl K (fun ys H Q => ∃ p zs, ys = [V.ref p] ∧ (SqL K H p zs ∨ SqT K H p zs) ∧ ∀ l, H l = none → Q (.ref l) (upd H l (.lst zs))) [x] μ k := fun us H Q r d t => by
  cases d with
  | cons d0 d1 =>
    cases d1
    obtain ⟨a, vs, rfl, ha, ra⟩ := l.rep r d0
    refine ⟨a, vs, rfl, .inl ha, fun p hp => ?_⟩
    have s2 : Step μ H (updM μ p (.lst xs)) (upd H p (.lst vs)) := Step.newM hp
    exact t _ _ _ _ (h p (r.free hp)) s2 (r.put s2 ⟨_, upd_same, ra.step s2⟩) (.obj p)
theorem je_notin (c : Cok kl X W) (h : JE X W KE a n μ fun x μ1 => JE X W KE b n μ1 fun y μ2 => DOp X.K (rNotInD X.K) x y μ2 k) (hm : behindInMarks .NotIn b = false := by rfl) : JE X W KE (.Compare a [.NotIn] [b] pos) n μ k := je_cmp (op_notInD (by have := c.room.un; omega)) hm h
theorem jt_notin {kb : Bool → M → Prop} (c : Cok kl X W) (h : JE X W KE a n μ fun x μ1 => JE X W KE b n μ1 fun y μ2 => DOp X.K (rNotInD X.K) x y μ2 (kB kb)) (hm : behindInMarks .NotIn b = false := by rfl) : JT X W KE (.Compare a [.NotIn] [b] pos) n μ kb := jt_cmp (op_notInD (by have := c.room.un; omega)) hm h
theorem d_notinE {α : Type} [DecidableEq α] (E : Enc α) (hn : E.n + 1 ≤ 64) {x : α} {xs : List α} {d e : Dv} (hd : d = E.dv x := by rfl) (he : e = .lst (xs.map E.dv) := by rfl) (h : k (.bl (!decide (x ∈ xs))) μ) : DOp K (rNotInD K) d e μ k := by
  subst hd; subst he
  intro u v H Q r du dv t
  exact ⟨E.py x, xs.map E.py, du.dp (E.toPy x), dv.dp (E.list.toPy xs), E.shaped (by omega) x, E.list.shaped hn xs, by rw [any_eqvE]; exact tl_pure t h r (.bl _)⟩
/-- a, b, c = e, e a tuple -/
theorem js_tup3 (i1 i2 i3 : Nat) {x1 x2 x3 : Str} {p1 p2 p3 p4 : Pos} {kk} (c : Cok kl X W) (h1 : X.N[i1]? = some x1) (h2 : X.N[i2]? = some x2) (h3 : X.N[i3]? = some x3)
    (h : JE X W KE e n μ fun d μ' => ∃ d1 d2 d3, d = .tup [d1, d2, d3] ∧ P.nx (((n.set i1 (some d1)).set i2 (some d2)).set i3 (some d3)) μ')
    (ht : PG X (.Tuple [.Name x1 p1, .Name x2 p2, .Name x3 p3] kk p4) (gTup X.K 3 (gCons (gName i1) (gCons (gName i2) (gCons (gName i3) gNil)))))
    (hs : swapsWithSole [.Tuple [.Name x1 p1, .Name x2 p2, .Name x3 p3] kk p4] e pos.line X.env = pure false := by rfl) (hw : swappedStores [.Tuple [.Name x1 p1, .Name x2 p2, .Name x3 p3] kk p4] e X.env = pure none := by rfl)
    (ha : (assignEach [.Tuple [.Name x1 p1, .Name x2 p2, .Name x3 p3] kk p4] X.env).map (·.2) = [assign (.Tuple [.Name x1 p1, .Name x2 p2, .Name x3 p3] kk p4) X.env] := by rfl) : JS X W KE (.Assign [.Tuple [.Name x1 p1, .Name x2 p2, .Name x3 p3] kk p4] e pos) n μ P :=
  js_of (ps_asg peC ht hs hw ha) fun σ H D ev rp t q => by
    refine h σ H _ ev rp t fun w d H1 μ1 h1 s1 r1 q1 => ?_
    obtain ⟨d1, d2, d3, rfl, hk⟩ := h1
    obtain ⟨a, vs, rfl, e1, fr⟩ := tup_rep q1
    cases fr with
    | cons f1 fr =>
      cases fr with
      | cons f2 fr =>
        cases fr with
        | cons f3 fr =>
        cases fr
        exact ⟨a, _, rfl, SqT.of e1, rfl, _, _, rfl, _, _, rfl, _, _, rfl, rfl, q.nx _ _ _ _ hk ((((ev.step s1).set f1 i1).set f2 i2).set f3 i3) s1 r1⟩
end
section
variable {X : Cx} {scope : Scope} {ifs : List Expr} {elt : Expr} {i : Nat} {n : En} {k : DK}
/-- a comprehension of new things that stays mutable -/
theorem lc_makeM {α : Type} (dv : α → Dv) (mk : α → MO) (xs : List α) {s : Src} {μ1 : M} (hs : s.items = xs.map dv) (hok : s.Ok μ1) (hl : xs.length < sizeLine)
    (h : ∀ (x : α) (μ' : M), x ∈ xs → ExtM μ1 μ' → LcTurn X scope ifs elt ((n.set i none).set i (some (dv x))) μ' fun o μ3 => ∃ a, o = some (.obj a) ∧ μ' a = none ∧ μ3 = updM μ' a (mk x))
    (hk : ∀ (p : Addr) (as : List Addr) (μ' : M), μ1 p = none → ExtM μ1 μ' → μ' p = some (.lst (as.map Dv.obj)) → as.length = xs.length → (∀ (j : Nat) (a : Addr) (x : α), as[j]? = some a → xs[j]? = some x → μ' a = some (mk x)) → (∀ a ∈ as, μ1 a = none) → k (.obj p) μ') : LcAll X scope ifs elt i n k s μ1 := fun p hp => by
  obtain ⟨Iv, h0, hok', ht, hend⟩ := lc_make (k := fun d μ' => ∃ as : List Addr, d = .lst (as.map Dv.obj) ∧ ExtM μ1 μ' ∧ as.length = xs.length ∧ (∀ (j : Nat) (a : Addr) (x : α), as[j]? = some a → xs[j]? = some x → μ' a = some (mk x)) ∧ ∀ a ∈ as, μ1 a = none) dv mk xs hs hok hl h
    (fun as μ' h1 h2 h3 _ h5 => ⟨as, rfl, h1, h2, h3, h5⟩) p hp
  refine ⟨Iv, h0, hok', ht, fun acc μ' iv => ?_⟩
  rcases hend acc μ' iv with ⟨as, e1, h1, h2, h3, h5⟩ | ⟨_, as, e1, _⟩
  · cases e1
    have hm := (hok' _ _ _ iv).2.1
    have un : ∀ a o, (delM μ' p) a = some o → μ' a = some o := fun a o e => by
      have ne : a ≠ p := fun z => by rw [z, delM_same] at e; cases e
      rw [delM_ne ne] at e; exact e
    exact .inr ⟨hm, hk p as μ' hp (fun a o e => un a o (h1 a o e)) hm h2 (fun j a x e1 e2 => un _ _ (h3 j a x e1 e2)) h5⟩
  · cases e1
end
end DL

/-! ## Exceptions made as values -/
namespace DL
open PySem PySem.Spec L2 PyProof.Rows
section
variable {X : Cx}
/-- x(e), an own exception class without its own __init__, as a value -/
theorem pe_exc1D {C : Addr} {bmB : List Value} {B newId initId : String} {x : Str} {e : Expr} {ta : TE} {p pos : Pos} (F : ExcBaseFacts B newId initId bmB) (q : PySem.W.excIn X.K C bmB newId = true) (gC : X.mg x = some (.ref C)) (kC : PySem.W.keepIn X.K (.ref C) = true) (hg : Gl X x)
    (he : PE X e ta) (hs : starEach [e] X.env = (false, eval e X.env) :: starEach [] X.env := by rfl) (hdb : (x == ("__debug__" : Str)) = false := by decide) :
    PE X (.Call (.Name x p) [e] [] pos) (fun σ H Q => ta σ H fun _ H1 => ∀ a, H1 a = none → Q (.ref a) (upd H1 a (ExD (.ref C) none a))) := by
  refine ⟨fun pins s σ H Q I h => ?_⟩
  refine wpAny_Call_Name_kw (ld_glob I hg gC ?_ hdb)
  refine PySem.W.callWith_K (h₀ := X.base) I.ok.mod.kin kC ?_ hs (by rfl)
  rw [hs]
  show wpAny _ _ (spliced ((false, eval e X.env) :: backTo pos (starEach [] X.env))) _ _ s
  refine Calls.spliced_cons (thn (he.run pins s σ H _ I h) fun u s1 ⟨v, H1, I1, r1, q1⟩ => ?_)
  refine Calls.spliced_nil ⟨I1.kIn, ?_⟩
  show wpAny _ _ (call (.ref C) [u]) _ _ _
  obtain ⟨bm, N, nm, qn, bs, hdct, sn, sub, ab, col, dd, k0, k1, k2, k3, k5, mN, hC, hN, hni, T⟩ := exc_obj I1.kIn q
  refine wpAny_call_exc_subT F T hC hN hni (fun h' a hm => ?_) (by show 1 ≤ sizeLine; rw [sizeLine_eq]; omega)
  have hn : H1 a = none := I1.hok.gone hm.new
  obtain ⟨t, ht, _, _⟩ := hm.there
  exact ⟨.ref a, upd H1 a (ExD (.ref C) none a), I1.laidN hm.keeps hm.new hn (exD_ok ht ⟨rfl, rfl⟩ rfl), rfl, q1 a hn⟩
/-- the end of C(e, ..), C with its own __init__: the exception stands as a tracked thing -/
theorem keep_end {pins : List (Addr × Obj)} {σ : L2.St} {H1 H2 : Hp} {hp hp2 h2 : Heap} {g1 g2 : Array GenState} {d1 d2 : Drawn} {t1 t2 : Nat} {os1 os2 : OsState} {a C d : Addr} {fs : List (Str × V)} (I1 : Inv X pins σ H1 ⟨hp, g1, d1, t1, os1⟩)
    (ha : hp.objs.size ≤ a) (k : ∀ b o, hp.get? b = some o → hp2.get? b = some o) (un : Un (frs X.stack) [] (upd H1 a (exo a C none)) H2 hp2 h2) (hok : HOk X.prog X.w H2 h2) (ho : os2 = os1) (hb : AllBare g2)
    (ea : H2 a = some (exo a C (some d))) (ed : H2 d = some (exd d fs)) (hd1 : H1 d = none) :
    Inv X pins σ (upd (upd H2 a (ExD (.ref C) (some d) a)) d (.xd fs)) ⟨h2, g2, d2, t2, os2⟩ := by
  obtain ⟨t0, hoe⟩ := exo_at hok ea
  obtain ⟨mA, hns, rel⟩ := exd_at hok ed
  have hn : H1 a = none := I1.hok.fresh ha
  have hda : d ≠ a := fun z => by
    obtain ⟨o, es, ep, e1, e2, _⟩ := hns
    rw [z, hoe] at e1
    have z2 := Option.some.inj e1
    subst z2
    cases e2
  have nha : ∀ {b : Addr} {o : Obj}, hp.get? b = some o → b ≠ a := fun {b o} z => Nat.ne_of_lt (Nat.lt_of_lt_of_le (Heap.lt_size z) ha)
  have up : ∀ {b : Addr}, b ≠ a → H1 b = none → upd H1 a (exo a C none) b = none := fun {b} hb n => by rw [upd_ne hb]; exact n
  have nd : ∀ {b : Addr} {o : Obj}, hp.get? b = some o → H1 b = none → b ≠ d := fun {b o} z n e => by
    have y := un.free b o (k b o z) (up (nha z) n) (by simp)
    rw [e, ed] at y
    cases y
  have U : Un (frs X.stack) [] H1 (upd (upd H2 a (ExD (.ref C) (some d) a)) d (.xd fs)) hp h2 := {
    keep := fun b o z n hf hx => un.keep b o (k b o z) (up (nha z) n) hf hx
    slot := fun b o z n hf hx => un.slot b o (k b o z) (up (nha z) n) hf hx
    free := fun b o z n hx => by
      rw [upd_ne (nd z n), upd_ne (nha z)]
      exact un.free b o (k b o z) (up (nha z) n) hx
    there := fun b o z hx => un.there b o (k b o z) hx
    tups := fun b xs z => by
      rw [upd_ne (ne_of_none z hd1), upd_ne (ne_of_none z hn)]
      exact un.tups b xs (by rw [upd_ne (ne_of_none z hn)]; exact z)
    frzs := fun b o v z => by
      rw [upd_ne (ne_of_none z hd1), upd_ne (ne_of_none z hn)]
      exact un.frzs b o v (by rw [upd_ne (ne_of_none z hn)]; exact z)
    tbls := fun b ps z => by
      rw [upd_ne (ne_of_none z hd1), upd_ne (ne_of_none z hn)]
      exact un.tbls b ps (by rw [upd_ne (ne_of_none z hn)]; exact z) }
  have hok3 : HOk X.prog X.w (upd (upd H2 a (ExD (.ref C) (some d) a)) d (.xd fs)) h2 := fun b o z => by
    by_cases hbd : b = d
    · subst hbd
      rw [upd_same] at z
      cases z
      exact ⟨mA, hns, rel⟩
    · rw [upd_ne hbd] at z
      by_cases hba : b = a
      · subst hba
        rw [upd_same] at z
        cases z
        exact ⟨⟨_, _, hoe, ⟨rfl, rfl⟩, rfl⟩, ⟨_, hoe⟩, fun _ _ ⟨o, v, q, r⟩ kk => ⟨o, v, kk o q, r⟩⟩
      · rw [upd_ne hba] at z
        have noa : ∀ {c : Addr}, H2 c = some (.own b) → c ≠ a := fun {c} hc => at_ne ea hc exo_own
        exact (hok b o z).stay (fun c v hc y => y)
          (fun c hc => by rw [upd_ne (at_ne ed hc exd_own), upd_ne (noa hc)]; exact hc) (fun c xs hc => by rw [upd_ne (at_ne ed hc exd_tup), upd_ne (at_ne ea hc exo_tup)]; exact hc)
  exact I1.call' (ch := []) ho U hok3 hb (fun b z => absurd z (by simp))
/-- C(e, ..) as a value, C's own __init__ keeping sp -/
def tVlO (C : Addr) (sp : Sp) (ta : TA) : TE := fun σ H Q => ta σ H fun vs H1 => vs.length ≤ 1000 ∧ ∀ a, H1 a = none → sp (.ref a :: vs) (upd H1 a (exo a C none))
  (fun v H2 => v = .non ∧ ∃ (d : Addr) (fs : List (Str × V)), H2 a = some (exo a C (some d)) ∧ H2 d = some (exd d fs) ∧ H1 d = none ∧ Q (.ref a) (upd (upd H2 a (ExD (.ref C) (some d) a)) d (.xd fs))) (fun _ _ _ => False)
theorem pe_oexV {CX : CXT} {x : Str} {C fI : Addr} {k : Nat} {fd : FuncData} {ps : List Str} {sp : Sp} {e : Expr} {es : List Expr} {ta : TA} {p pos : Pos} (T : OexC X.K C) (iC : PySem.W.findIn X.K (.ref C) "__init__" = some (some (.ref fI))) (tI : PySem.W.typeIn X.K (.ref fI) = some (.type "function"))
    (F1 : FnOk X.prog X.w X.K X.mg X.base CX k fI fd ps sp) (hr : Room (k + 1) X.A) (hb : Binds X.K fd ps []) (hx : Passes CX X (fun _ _ _ => False)) (hg : Gl X x) (hm : X.mg x = some (.ref C)) (ha : PA X (e :: es) ta)
    (hdb : (x == ("__debug__" : Str)) = false := by decide) (he : starEach (e :: es) X.env = (false, eval e X.env) :: starEach es X.env := by rfl) (hpl : (backTo pos (starEach es X.env)).any (·.1) = false := by rfl) :
    PE X (.Call (.Name x p) (e :: es) [] pos) (tVlO C sp ta) := by
  refine ⟨fun pins s σ H Q I h => ?_⟩
  obtain ⟨nm, q, N, bs, bm, sn, sub, ab, col, dd, k0, k1, k2, k3, k5, hC, hbm⟩ := T.cls
  refine wpAny_Call_Name_kw (ld_glob I hg hm ?_ hdb)
  refine PySem.W.callWith_K (h₀ := X.base) I.ok.mod.kin T.kC (thn (ha.run pos pins s σ H _ I h) fun us s1 ⟨vs, H1, I1, r1, hz, q1⟩ => ⟨I1.kIn, ?_⟩) he hpl
  show wpAny _ _ (call (.ref C) us) _ _ _
  obtain ⟨hp, g, dr, tk, os⟩ := s1
  have hsz : hp.objs.size ≤ hp.objs.size + 1 := Nat.le_succ _
  have hn : H1 (hp.objs.size + 1) = none := I1.hok.fresh hsz
  have hq := q1 (hp.objs.size + 1) hn
  have kk : ∀ b o, hp.get? b = some o → ((hp.push (PySem.W.kdv_tup us)).push (PySem.HandSPX.excO C hp.objs.size)).get? b = some o := fun b o e => Heap.get?_push_of_some _ (Heap.get?_push_of_some _ e)
  have hget : ((hp.push (PySem.W.kdv_tup us)).push (PySem.HandSPX.excO C hp.objs.size)).get? (hp.objs.size + 1) = some (PySem.HandSPX.excO C hp.objs.size) := by heap_get
  have I2 : Inv X pins σ (upd H1 (hp.objs.size + 1) (exo (hp.objs.size + 1) C none)) ⟨(hp.push (PySem.W.kdv_tup us)).push (PySem.HandSPX.excO C hp.objs.size), g, dr, tk, os⟩ :=
    I1.laid (t' := tk) (a := hp.objs.size + 1) (o := exo (hp.objs.size + 1) C none) (h' := (hp.push (PySem.W.kdv_tup us)).push (PySem.HandSPX.excO C hp.objs.size)) kk hsz (exo_ok hget)
  have r2 : Vals (V.ref (hp.objs.size + 1) :: vs) (Value.ref (hp.objs.size + 1) :: us) := .cons rfl r1
  have hl : (Value.ref (hp.objs.size + 1) :: us ++ []).length = ps.length := by
    have e := r2.length
    rw [F1.len _ _ _ _ hq] at e
    rw [List.append_nil]
    exact e.symm
  have hus : us.length ≤ sizeLine := by
    rw [← Paired.length r1, sizeLine_eq]
    omega
  refine wpAny_call (PySem.HandSPX.call_own PySem.F.excBase_ValueError (fun Y => PySem.HandSPX.refsVE_contains Y bm hbm) (I1.kIn _ _ hC) (PySem.W.looks_findIn I1.kIn iC) (fun self => PySem.W.bind_fn I1.kIn self tI) hus
    (codeAny_mono (F1.run _ X.stack _ _ ⟨Value.ref (hp.objs.size + 1) :: us, []⟩ (Value.ref (hp.objs.size + 1) :: us) _ _ (fun _ _ _ => False) (hr.make C us []) (I2.env0.make C us []) (by have z := hb _ (Value.ref (hp.objs.size + 1) :: us) I2.kIn hl; rw [List.append_nil] at z; exact z) r2 hq) fun r s' hq' => ?_))
  cases r with
  | error er => exact hx pins σ _ _ er s' I2 hq'
  | ok fl =>
    cases fl with
    | ret u =>
      obtain ⟨v, H2, os2, bare2, un2, hok2, rv, ev, d, fs, ea, ed, hd1, q2⟩ := hq'
      subst ev
      obtain ⟨h2, g2, d2, t2, os'⟩ := s'
      exact ⟨rv, .ref (hp.objs.size + 1), _, keep_end I1 hsz kk un2 hok2 os2 bare2 ea ed hd1, rfl, q2⟩
    | next => exact False.elim hq'
    | brk => exact False.elim hq'
    | cont => exact False.elim hq'
end
section
variable {X : Cx} {W : WX} {KE : XD} {e e1 e2 : Expr} {es : List Expr} {n : En} {μ : M} {k : DK} {P : Ed} {p pos pos' : Pos} {x f fld f1 f2 : Str} {kl j : Nat} {C : Addr}
theorem je_exc1 (c : Cok kl X W) (F : Xc X.K X.mg x C) (h : JE X W KE e n μ fun _ μ1 => k (.exc C []) μ1) (hg : Gl X x := by rfl) (hdb : (x == ("__debug__" : Str)) = false := by decide)
    (hs : starEach [e] X.env = (false, eval e X.env) :: starEach [] X.env := by rfl) : JE X W KE (.Call (.Name x p) [e] [] pos) n μ k :=
  je_of (pe_exc1D PySem.F.excBase_ValueError F.q F.g F.k hg peC hs hdb) fun σ H Q ev rp t q => by
    refine h σ H _ ev rp t fun v d H1 μ1 h1 s1 r1 d1 => fun a ha => ?_
    exact tl_new (q.step s1) h1 r1 ha (.exc0 upd_same (r1.free ha))
theorem exo_kept {H1 : Hp} {a dx : Addr} {o1 o2 o3 o4 o5 : HO} (ne : dx ≠ a) : upd (upd (upd (upd (upd H1 a o1) dx o2) a o3) a o4) dx o5 = upd (upd H1 a o4) dx o5 := by
  funext b
  by_cases z : b = dx
  · rw [z, upd_same, upd_same]
  · rw [upd_ne z, upd_ne z]
    by_cases y : b = a
    · rw [y, upd_same, upd_same]
    · rw [upd_ne y, upd_ne y, upd_ne z, upd_ne y, upd_ne y]
theorem exo_kept2 {H1 : Hp} {a dx : Addr} {o1 o2 o3 o4 o5 o6 : HO} (ne : dx ≠ a) : upd (upd (upd (upd (upd (upd H1 a o1) dx o2) a o3) dx o6) a o4) dx o5 = upd (upd H1 a o4) dx o5 := by
  funext b
  by_cases z : b = dx
  · rw [z, upd_same, upd_same]
  · rw [upd_ne z, upd_ne z]
    by_cases y : b = a
    · rw [y, upd_same, upd_same]
    · rw [upd_ne y, upd_ne y, upd_ne z, upd_ne y, upd_ne z, upd_ne y]
theorem je_excI1 (c : Cok kl X W) (F : DExI X.prog X.w X.K X.mg X.base j x C (sp1 fld C)) (hj : j + 1 ≤ kl) (h : JE X W KE e n μ fun d μ1 => k (.exc C [(fld, d)]) μ1) (hg : Gl X x := by rfl)
    (hdb : (x == ("__debug__" : Str)) = false := by decide) (hs : starEach [e] X.env = (false, eval e X.env) :: starEach [] X.env := by rfl) (hpl : (backTo pos (starEach [] X.env)).any (·.1) = false := by rfl) : JE X W KE (.Call (.Name x p) [e] [] pos) n μ k := by
  obtain ⟨fI, fd, ps, F1, hb, T⟩ := F.ex
  refine je_of (pe_oexV T.o T.i T.t F1 (c.room.mono hj) hb passF hg T.g paC hdb hs hpl) fun σ H Q ev rp t q => ?_
  have h' : JA X W KE [e] n μ fun ds μ1 => ∃ d, ds = [d] ∧ k (.exc C [(fld, d)]) μ1 := ja_one (h.mono fun d μ1 z => ⟨d, rfl, z⟩) hs
  refine h' σ H _ ev rp t fun vs ds H1 μ1 h1 s1 r1 dd => ?_
  obtain ⟨d, rfl, hk⟩ := h1
  cases dd with
  | cons d1 dn =>
    cases dn
    refine ⟨by simp, fun a ha => ⟨a, _, rfl, upd_same, fun dx hdx ne => ⟨rfl, dx, _, upd_same, (upd_ne ne).trans upd_same, by rw [upd_ne ne] at hdx; exact hdx, ?_⟩⟩⟩
    have hdx1 : H1 dx = none := by rw [upd_ne ne] at hdx; exact hdx
    rw [exo_kept ne]
    have sN : ∀ o, Step μ1 H1 μ1 (upd H1 a o) := fun o => Step.new ha
    have hdx2 : ∀ o, upd H1 a o dx = none := fun o => by rw [upd_ne ne]; exact hdx1
    have sM : ∀ o o2, Step μ1 (upd H1 a o) μ1 (upd (upd H1 a o) dx o2) := fun o o2 => Step.new (hdx2 o)
    exact q _ _ _ _ hk (s1.trans ((sN _).trans (sM _ _))) ((r1.new ha).new (hdx2 _)) (.exc1 ((upd_ne ne.symm).trans upd_same) (r1.free ha) upd_same (r1.free hdx1) (.cons (d1.step ((sN _).trans (sM _ _))) .nil))
theorem je_excI2 (c : Cok kl X W) (F : DExI X.prog X.w X.K X.mg X.base j x C (sp2 f1 f2 C)) (hj : j + 1 ≤ kl) (h : JE X W KE e1 n μ fun d μ1 => JE X W KE e2 n μ1 fun d2 μ2 => k (.exc C [(f2, d2), (f1, d)]) μ2) (hg : Gl X x := by rfl)
    (hdb : (x == ("__debug__" : Str)) = false := by decide) (hs : starEach [e1, e2] X.env = (false, eval e1 X.env) :: starEach [e2] X.env := by rfl) (hs2 : starEach [e2] X.env = (false, eval e2 X.env) :: starEach [] X.env := by rfl) (hpl : (backTo pos (starEach [e2] X.env)).any (·.1) = false := by rfl) : JE X W KE (.Call (.Name x p) [e1, e2] [] pos) n μ k := by
  obtain ⟨fI, fd, ps, F1, hb, T⟩ := F.ex
  refine je_of (pe_oexV T.o T.i T.t F1 (c.room.mono hj) hb passF hg T.g paC hdb hs hpl) fun σ H Q ev rp t q => ?_
  have h' : JA X W KE [e1, e2] n μ fun ds μ2 => ∃ d d2, ds = [d, d2] ∧ k (.exc C [(f2, d2), (f1, d)]) μ2 := ja_cons (h.mono fun d μ1 z => ja_one (z.mono fun d2 μ2 z2 => ⟨d, d2, rfl, z2⟩) hs2) hs
  refine h' σ H _ ev rp t fun vs ds H1 μ1 h1 s1 r1 dd => ?_
  obtain ⟨d, d2, rfl, hk⟩ := h1
  cases dd with
  | cons d1 dn =>
    cases dn with
    | cons d3 dn =>
    cases dn
    refine ⟨by simp, fun a ha => ⟨a, _, _, rfl, upd_same, fun dx hdx ne => ⟨rfl, dx, _, (upd_ne ne.symm).trans upd_same, upd_same, by rw [upd_ne ne] at hdx; exact hdx, ?_⟩⟩⟩
    have hdx1 : H1 dx = none := by rw [upd_ne ne] at hdx; exact hdx
    rw [exo_kept2 ne]
    have sN : ∀ o, Step μ1 H1 μ1 (upd H1 a o) := fun o => Step.new ha
    have hdx2 : ∀ o, upd H1 a o dx = none := fun o => by rw [upd_ne ne]; exact hdx1
    have sM : ∀ o o2, Step μ1 (upd H1 a o) μ1 (upd (upd H1 a o) dx o2) := fun o o2 => Step.new (hdx2 o)
    exact q _ _ _ _ hk (s1.trans ((sN _).trans (sM _ _))) ((r1.new ha).new (hdx2 _)) (.exc1 ((upd_ne ne.symm).trans upd_same) (r1.free ha) upd_same (r1.free hdx1) (.cons (d3.step ((sN _).trans (sM _ _))) (.cons (d1.step ((sN _).trans (sM _ _))) .nil)))
end
end DL

namespace TSL
open PySem PySem.Spec L2 DL
structure Ad where
  CGE : Addr
  CNB : Addr
  CNM : Addr
  CNC : Addr
  CNN : Addr
  CNP : Addr
  CNV : Addr
  CLT : Addr
  CFU : Addr
  CBR : Addr
  CNE : Addr
  CBK : Addr
structure Txt (K : Kf) (mg : Str → Option Value) (A : Ad) : Prop where
  isn : PySem.W.specialIn K (.builtin "object.__class__") "__get__" = some (some (.builtin "getset_descriptor.__get__"))
  ist : PySem.W.takesIn K (.builtin "object.__class__") = some true
  x_GateError : Xc K mg "GateError" A.CGE
  xc_GateError : ExcC K A.CGE
  x_NoBound : Xc K mg "NoBound" A.CNB
  xc_NoBound : ExcC K A.CNB
  x_NoMoment : Xc K mg "NoMoment" A.CNM
  xc_NoMoment : ExcC K A.CNM
  x_NoCost : Xc K mg "NoCost" A.CNC
  xc_NoCost : ExcC K A.CNC
  x_NoName : Xc K mg "NoName" A.CNN
  xc_NoName : ExcC K A.CNN
  x_NoPlace : Xc K mg "NoPlace" A.CNP
  xc_NoPlace : ExcC K A.CNP
  x_NoVisit : Xc K mg "NoVisit" A.CNV
  xc_NoVisit : ExcC K A.CNV
  x_Late : Xc K mg "Late" A.CLT
  xc_Late : ExcC K A.CLT
  x_Full : Xc K mg "Full" A.CFU
  xc_Full : ExcC K A.CFU
  x_BadRow : Xc K mg "BadRow" A.CBR
  xc_BadRow : ExcC K A.CBR
  gei : GeI K mg A.CGE
  oc_Never : OexC K A.CNE
  na_Never_place : NoAttr K A.CNE "place"
  xc_Never : ExcC K A.CNE
  oc_Broken : OexC K A.CBK
  na_Broken_k : NoAttr K A.CBK "k"
  na_Broken_stretch : NoAttr K A.CBK "stretch"
  xc_Broken : ExcC K A.CBK
  kit_NoBound_GateError : PySem.W.kitOne K (.ref A.CNB) (.ref A.CGE) = some true
  kit_NoMoment_GateError : PySem.W.kitOne K (.ref A.CNM) (.ref A.CGE) = some true
  kit_NoCost_GateError : PySem.W.kitOne K (.ref A.CNC) (.ref A.CGE) = some true
  kit_NoName_GateError : PySem.W.kitOne K (.ref A.CNN) (.ref A.CGE) = some true
  kit_NoPlace_GateError : PySem.W.kitOne K (.ref A.CNP) (.ref A.CGE) = some true
  kit_NoVisit_GateError : PySem.W.kitOne K (.ref A.CNV) (.ref A.CGE) = some true
  kit_Late_GateError : PySem.W.kitOne K (.ref A.CLT) (.ref A.CGE) = some true
  kit_Full_GateError : PySem.W.kitOne K (.ref A.CFU) (.ref A.CGE) = some true
  kit_BadRow_GateError : PySem.W.kitOne K (.ref A.CBR) (.ref A.CGE) = some true
  kit_Never_GateError : PySem.W.kitOne K (.ref A.CNE) (.ref A.CGE) = some true
  kit_Broken_GateError : PySem.W.kitOne K (.ref A.CBK) (.ref A.CGE) = some true
  kit_NoBound_ValueError : PySem.W.kitOne K (.ref A.CNB) (.type "ValueError") = some true
  kit_NoMoment_ValueError : PySem.W.kitOne K (.ref A.CNM) (.type "ValueError") = some true
  kit_NoCost_ValueError : PySem.W.kitOne K (.ref A.CNC) (.type "ValueError") = some true
  kit_NoName_ValueError : PySem.W.kitOne K (.ref A.CNN) (.type "ValueError") = some true
  kit_NoPlace_ValueError : PySem.W.kitOne K (.ref A.CNP) (.type "ValueError") = some true
  kit_NoVisit_ValueError : PySem.W.kitOne K (.ref A.CNV) (.type "ValueError") = some true
  kit_Late_ValueError : PySem.W.kitOne K (.ref A.CLT) (.type "ValueError") = some true
  kit_Full_ValueError : PySem.W.kitOne K (.ref A.CFU) (.type "ValueError") = some true
  kit_BadRow_ValueError : PySem.W.kitOne K (.ref A.CBR) (.type "ValueError") = some true
  kit_Never_ValueError : PySem.W.kitOne K (.ref A.CNE) (.type "ValueError") = some true
  kit_Broken_ValueError : PySem.W.kitOne K (.ref A.CBK) (.type "ValueError") = some true
  kit_NoBound_NoBound : PySem.W.kitOne K (.ref A.CNB) (.ref A.CNB) = some true
  kit_NoBound_NoMoment : PySem.W.kitOne K (.ref A.CNB) (.ref A.CNM) = some false
  kit_NoBound_NoCost : PySem.W.kitOne K (.ref A.CNB) (.ref A.CNC) = some false
  kit_NoBound_NoName : PySem.W.kitOne K (.ref A.CNB) (.ref A.CNN) = some false
  kit_NoBound_NoPlace : PySem.W.kitOne K (.ref A.CNB) (.ref A.CNP) = some false
  kit_NoBound_NoVisit : PySem.W.kitOne K (.ref A.CNB) (.ref A.CNV) = some false
  kit_NoBound_Late : PySem.W.kitOne K (.ref A.CNB) (.ref A.CLT) = some false
  kit_NoBound_Full : PySem.W.kitOne K (.ref A.CNB) (.ref A.CFU) = some false
  kit_NoBound_BadRow : PySem.W.kitOne K (.ref A.CNB) (.ref A.CBR) = some false
  kit_NoBound_Never : PySem.W.kitOne K (.ref A.CNB) (.ref A.CNE) = some false
  kit_NoBound_Broken : PySem.W.kitOne K (.ref A.CNB) (.ref A.CBK) = some false
  kit_NoMoment_NoBound : PySem.W.kitOne K (.ref A.CNM) (.ref A.CNB) = some false
  kit_NoMoment_NoMoment : PySem.W.kitOne K (.ref A.CNM) (.ref A.CNM) = some true
  kit_NoMoment_NoCost : PySem.W.kitOne K (.ref A.CNM) (.ref A.CNC) = some false
  kit_NoMoment_NoName : PySem.W.kitOne K (.ref A.CNM) (.ref A.CNN) = some false
  kit_NoMoment_NoPlace : PySem.W.kitOne K (.ref A.CNM) (.ref A.CNP) = some false
  kit_NoMoment_NoVisit : PySem.W.kitOne K (.ref A.CNM) (.ref A.CNV) = some false
  kit_NoMoment_Late : PySem.W.kitOne K (.ref A.CNM) (.ref A.CLT) = some false
  kit_NoMoment_Full : PySem.W.kitOne K (.ref A.CNM) (.ref A.CFU) = some false
  kit_NoMoment_BadRow : PySem.W.kitOne K (.ref A.CNM) (.ref A.CBR) = some false
  kit_NoMoment_Never : PySem.W.kitOne K (.ref A.CNM) (.ref A.CNE) = some false
  kit_NoMoment_Broken : PySem.W.kitOne K (.ref A.CNM) (.ref A.CBK) = some false
  kit_NoCost_NoBound : PySem.W.kitOne K (.ref A.CNC) (.ref A.CNB) = some false
  kit_NoCost_NoMoment : PySem.W.kitOne K (.ref A.CNC) (.ref A.CNM) = some false
  kit_NoCost_NoCost : PySem.W.kitOne K (.ref A.CNC) (.ref A.CNC) = some true
  kit_NoCost_NoName : PySem.W.kitOne K (.ref A.CNC) (.ref A.CNN) = some false
  kit_NoCost_NoPlace : PySem.W.kitOne K (.ref A.CNC) (.ref A.CNP) = some false
  kit_NoCost_NoVisit : PySem.W.kitOne K (.ref A.CNC) (.ref A.CNV) = some false
  kit_NoCost_Late : PySem.W.kitOne K (.ref A.CNC) (.ref A.CLT) = some false
  kit_NoCost_Full : PySem.W.kitOne K (.ref A.CNC) (.ref A.CFU) = some false
  kit_NoCost_BadRow : PySem.W.kitOne K (.ref A.CNC) (.ref A.CBR) = some false
  kit_NoCost_Never : PySem.W.kitOne K (.ref A.CNC) (.ref A.CNE) = some false
  kit_NoCost_Broken : PySem.W.kitOne K (.ref A.CNC) (.ref A.CBK) = some false
  kit_NoName_NoBound : PySem.W.kitOne K (.ref A.CNN) (.ref A.CNB) = some false
  kit_NoName_NoMoment : PySem.W.kitOne K (.ref A.CNN) (.ref A.CNM) = some false
  kit_NoName_NoCost : PySem.W.kitOne K (.ref A.CNN) (.ref A.CNC) = some false
  kit_NoName_NoName : PySem.W.kitOne K (.ref A.CNN) (.ref A.CNN) = some true
  kit_NoName_NoPlace : PySem.W.kitOne K (.ref A.CNN) (.ref A.CNP) = some false
  kit_NoName_NoVisit : PySem.W.kitOne K (.ref A.CNN) (.ref A.CNV) = some false
  kit_NoName_Late : PySem.W.kitOne K (.ref A.CNN) (.ref A.CLT) = some false
  kit_NoName_Full : PySem.W.kitOne K (.ref A.CNN) (.ref A.CFU) = some false
  kit_NoName_BadRow : PySem.W.kitOne K (.ref A.CNN) (.ref A.CBR) = some false
  kit_NoName_Never : PySem.W.kitOne K (.ref A.CNN) (.ref A.CNE) = some false
  kit_NoName_Broken : PySem.W.kitOne K (.ref A.CNN) (.ref A.CBK) = some false
  kit_NoPlace_NoBound : PySem.W.kitOne K (.ref A.CNP) (.ref A.CNB) = some false
  kit_NoPlace_NoMoment : PySem.W.kitOne K (.ref A.CNP) (.ref A.CNM) = some false
  kit_NoPlace_NoCost : PySem.W.kitOne K (.ref A.CNP) (.ref A.CNC) = some false
  kit_NoPlace_NoName : PySem.W.kitOne K (.ref A.CNP) (.ref A.CNN) = some false
  kit_NoPlace_NoPlace : PySem.W.kitOne K (.ref A.CNP) (.ref A.CNP) = some true
  kit_NoPlace_NoVisit : PySem.W.kitOne K (.ref A.CNP) (.ref A.CNV) = some false
  kit_NoPlace_Late : PySem.W.kitOne K (.ref A.CNP) (.ref A.CLT) = some false
  kit_NoPlace_Full : PySem.W.kitOne K (.ref A.CNP) (.ref A.CFU) = some false
  kit_NoPlace_BadRow : PySem.W.kitOne K (.ref A.CNP) (.ref A.CBR) = some false
  kit_NoPlace_Never : PySem.W.kitOne K (.ref A.CNP) (.ref A.CNE) = some false
  kit_NoPlace_Broken : PySem.W.kitOne K (.ref A.CNP) (.ref A.CBK) = some false
  kit_NoVisit_NoBound : PySem.W.kitOne K (.ref A.CNV) (.ref A.CNB) = some false
  kit_NoVisit_NoMoment : PySem.W.kitOne K (.ref A.CNV) (.ref A.CNM) = some false
  kit_NoVisit_NoCost : PySem.W.kitOne K (.ref A.CNV) (.ref A.CNC) = some false
  kit_NoVisit_NoName : PySem.W.kitOne K (.ref A.CNV) (.ref A.CNN) = some false
  kit_NoVisit_NoPlace : PySem.W.kitOne K (.ref A.CNV) (.ref A.CNP) = some false
  kit_NoVisit_NoVisit : PySem.W.kitOne K (.ref A.CNV) (.ref A.CNV) = some true
  kit_NoVisit_Late : PySem.W.kitOne K (.ref A.CNV) (.ref A.CLT) = some false
  kit_NoVisit_Full : PySem.W.kitOne K (.ref A.CNV) (.ref A.CFU) = some false
  kit_NoVisit_BadRow : PySem.W.kitOne K (.ref A.CNV) (.ref A.CBR) = some false
  kit_NoVisit_Never : PySem.W.kitOne K (.ref A.CNV) (.ref A.CNE) = some false
  kit_NoVisit_Broken : PySem.W.kitOne K (.ref A.CNV) (.ref A.CBK) = some false
  kit_Late_NoBound : PySem.W.kitOne K (.ref A.CLT) (.ref A.CNB) = some false
  kit_Late_NoMoment : PySem.W.kitOne K (.ref A.CLT) (.ref A.CNM) = some false
  kit_Late_NoCost : PySem.W.kitOne K (.ref A.CLT) (.ref A.CNC) = some false
  kit_Late_NoName : PySem.W.kitOne K (.ref A.CLT) (.ref A.CNN) = some false
  kit_Late_NoPlace : PySem.W.kitOne K (.ref A.CLT) (.ref A.CNP) = some false
  kit_Late_NoVisit : PySem.W.kitOne K (.ref A.CLT) (.ref A.CNV) = some false
  kit_Late_Late : PySem.W.kitOne K (.ref A.CLT) (.ref A.CLT) = some true
  kit_Late_Full : PySem.W.kitOne K (.ref A.CLT) (.ref A.CFU) = some false
  kit_Late_BadRow : PySem.W.kitOne K (.ref A.CLT) (.ref A.CBR) = some false
  kit_Late_Never : PySem.W.kitOne K (.ref A.CLT) (.ref A.CNE) = some false
  kit_Late_Broken : PySem.W.kitOne K (.ref A.CLT) (.ref A.CBK) = some false
  kit_Full_NoBound : PySem.W.kitOne K (.ref A.CFU) (.ref A.CNB) = some false
  kit_Full_NoMoment : PySem.W.kitOne K (.ref A.CFU) (.ref A.CNM) = some false
  kit_Full_NoCost : PySem.W.kitOne K (.ref A.CFU) (.ref A.CNC) = some false
  kit_Full_NoName : PySem.W.kitOne K (.ref A.CFU) (.ref A.CNN) = some false
  kit_Full_NoPlace : PySem.W.kitOne K (.ref A.CFU) (.ref A.CNP) = some false
  kit_Full_NoVisit : PySem.W.kitOne K (.ref A.CFU) (.ref A.CNV) = some false
  kit_Full_Late : PySem.W.kitOne K (.ref A.CFU) (.ref A.CLT) = some false
  kit_Full_Full : PySem.W.kitOne K (.ref A.CFU) (.ref A.CFU) = some true
  kit_Full_BadRow : PySem.W.kitOne K (.ref A.CFU) (.ref A.CBR) = some false
  kit_Full_Never : PySem.W.kitOne K (.ref A.CFU) (.ref A.CNE) = some false
  kit_Full_Broken : PySem.W.kitOne K (.ref A.CFU) (.ref A.CBK) = some false
  kit_BadRow_NoBound : PySem.W.kitOne K (.ref A.CBR) (.ref A.CNB) = some false
  kit_BadRow_NoMoment : PySem.W.kitOne K (.ref A.CBR) (.ref A.CNM) = some false
  kit_BadRow_NoCost : PySem.W.kitOne K (.ref A.CBR) (.ref A.CNC) = some false
  kit_BadRow_NoName : PySem.W.kitOne K (.ref A.CBR) (.ref A.CNN) = some false
  kit_BadRow_NoPlace : PySem.W.kitOne K (.ref A.CBR) (.ref A.CNP) = some false
  kit_BadRow_NoVisit : PySem.W.kitOne K (.ref A.CBR) (.ref A.CNV) = some false
  kit_BadRow_Late : PySem.W.kitOne K (.ref A.CBR) (.ref A.CLT) = some false
  kit_BadRow_Full : PySem.W.kitOne K (.ref A.CBR) (.ref A.CFU) = some false
  kit_BadRow_BadRow : PySem.W.kitOne K (.ref A.CBR) (.ref A.CBR) = some true
  kit_BadRow_Never : PySem.W.kitOne K (.ref A.CBR) (.ref A.CNE) = some false
  kit_BadRow_Broken : PySem.W.kitOne K (.ref A.CBR) (.ref A.CBK) = some false
  kit_Never_NoBound : PySem.W.kitOne K (.ref A.CNE) (.ref A.CNB) = some false
  kit_Never_NoMoment : PySem.W.kitOne K (.ref A.CNE) (.ref A.CNM) = some false
  kit_Never_NoCost : PySem.W.kitOne K (.ref A.CNE) (.ref A.CNC) = some false
  kit_Never_NoName : PySem.W.kitOne K (.ref A.CNE) (.ref A.CNN) = some false
  kit_Never_NoPlace : PySem.W.kitOne K (.ref A.CNE) (.ref A.CNP) = some false
  kit_Never_NoVisit : PySem.W.kitOne K (.ref A.CNE) (.ref A.CNV) = some false
  kit_Never_Late : PySem.W.kitOne K (.ref A.CNE) (.ref A.CLT) = some false
  kit_Never_Full : PySem.W.kitOne K (.ref A.CNE) (.ref A.CFU) = some false
  kit_Never_BadRow : PySem.W.kitOne K (.ref A.CNE) (.ref A.CBR) = some false
  kit_Never_Never : PySem.W.kitOne K (.ref A.CNE) (.ref A.CNE) = some true
  kit_Never_Broken : PySem.W.kitOne K (.ref A.CNE) (.ref A.CBK) = some false
  kit_Broken_NoBound : PySem.W.kitOne K (.ref A.CBK) (.ref A.CNB) = some false
  kit_Broken_NoMoment : PySem.W.kitOne K (.ref A.CBK) (.ref A.CNM) = some false
  kit_Broken_NoCost : PySem.W.kitOne K (.ref A.CBK) (.ref A.CNC) = some false
  kit_Broken_NoName : PySem.W.kitOne K (.ref A.CBK) (.ref A.CNN) = some false
  kit_Broken_NoPlace : PySem.W.kitOne K (.ref A.CBK) (.ref A.CNP) = some false
  kit_Broken_NoVisit : PySem.W.kitOne K (.ref A.CBK) (.ref A.CNV) = some false
  kit_Broken_Late : PySem.W.kitOne K (.ref A.CBK) (.ref A.CLT) = some false
  kit_Broken_Full : PySem.W.kitOne K (.ref A.CBK) (.ref A.CFU) = some false
  kit_Broken_BadRow : PySem.W.kitOne K (.ref A.CBK) (.ref A.CBR) = some false
  kit_Broken_Never : PySem.W.kitOne K (.ref A.CBK) (.ref A.CNE) = some false
  kit_Broken_Broken : PySem.W.kitOne K (.ref A.CBK) (.ref A.CBK) = some true
  m_len : mg "len" = none
  m_isinstance : mg "isinstance" = none
  m_range : mg "range" = none
  m_ValueError : mg "ValueError" = none
  g_GateError : Gv mg "GateError" (.obj A.CGE)
  g_NoBound : Gv mg "NoBound" (.obj A.CNB)
  g_NoMoment : Gv mg "NoMoment" (.obj A.CNM)
  g_NoCost : Gv mg "NoCost" (.obj A.CNC)
  g_NoName : Gv mg "NoName" (.obj A.CNN)
  g_NoPlace : Gv mg "NoPlace" (.obj A.CNP)
  g_NoVisit : Gv mg "NoVisit" (.obj A.CNV)
  g_Late : Gv mg "Late" (.obj A.CLT)
  g_Full : Gv mg "Full" (.obj A.CFU)
  g_BadRow : Gv mg "BadRow" (.obj A.CBR)
  g_Never : Gv mg "Never" (.obj A.CNE)
  g_Broken : Gv mg "Broken" (.obj A.CBK)
/-! ### bounds, rows, cells -/
theorem lookup_putD (f g : Str) (v : Dv) : ∀ fs : List (Str × Dv), (putD f v fs).lookup g = if g = f then some v else fs.lookup g
  | [] => by
    show ([(f, v)] : List (Str × Dv)).lookup g = _
    rw [List.lookup_cons]
    by_cases e : g = f
    · subst e; simp
    · have : (g == f) = false := by simpa using e
      rw [this, if_neg e]
  | (k, x) :: r => by
    show (if k = f then (k, v) :: r else (k, x) :: putD f v r).lookup g = _
    by_cases e : k = f
    · subst e
      rw [if_pos rfl, List.lookup_cons, List.lookup_cons]
      by_cases e2 : g = k
      · subst e2; simp
      · have : (g == k) = false := by simpa using e2
        rw [this, if_neg e2]
    · rw [if_neg e, List.lookup_cons, List.lookup_cons, lookup_putD f g v r]
      by_cases e2 : g = k
      · subst e2; simp [e]
      · have : (g == k) = false := by simpa using e2
        rw [this]
theorem length_putD (f : Str) (v : Dv) : ∀ fs : List (Str × Dv), (putD f v fs).length ≤ fs.length + 1
  | [] => Nat.le_refl _
  | (k, x) :: r => by
    show (if k = f then (k, v) :: r else (k, x) :: putD f v r).length ≤ _
    have := length_putD f v r
    split
    · simp
    · simp; omega
inductive Bd where
  | jar (s f : Int) | win (m s : Int)
  deriving DecidableEq
def Bd.ok : Bd → Prop
  | .jar s f => (1 ≤ s ∧ s ≤ 1000000000000000) ∧ 0 ≤ f ∧ f ≤ 1000000000
  | .win m s => (1 ≤ m ∧ m ≤ 1000000000000000) ∧ 1 ≤ s ∧ s ≤ 1000000000000
def Bd.tv : Bd → Dv
  | .jar s f => .tup [.str "jar", .int s, .int f]
  | .win m s => .tup [.str "window", .int m, .int s]
def Bd.room : Bd → Int → Int → Option Int
  | .jar s f, a, b => some (s + f * (b - a))
  | .win m s, a, b => if b - a < s then some m else none
def opI : Option Int → Dv
  | none => .non
  | some i => .int i
theorem opI_non (o : Option Int) : isNonD (opI o) = o.isNone := by cases o <;> rfl
abbrev encV : Enc (Int × Int) := Enc.pair Enc.int Enc.int
def m_c1 (ns : List Int) (k : Int) : Int := if ns = [] then 7919 * k + 11 else 7919 * k + 11 + ns.getD (k % ns.length).toNat 0 * 48271 + 96810 * k + k / ns.length * 7919
def m_tail (c1 k : Int) : Int := (c1 % 2147483647 * (c1 % 2147483647) % 2147483629 * (c1 % 2147483647 * (c1 % 2147483647) % 2147483629) + 69621 * (c1 % 2147483647 * (c1 % 2147483647) % 2147483629) + k) % 2147483587
def m_law_cell (ns : List Int) (k : Int) : Int := m_tail (m_c1 ns k) k
theorem cell_ne {ns : List Int} (h : ¬ ns = []) (k : Int) : m_law_cell ns k = m_tail (7919 * k + 11 + ns.getD (k % ns.length).toNat 0 * 48271 + 96810 * k + k / ns.length * 7919) k := congrArg (m_tail · k) (if_neg h)
theorem cell_nil {ns : List Int} (h : ns = []) (k : Int) : m_law_cell ns k = m_tail (7919 * k + 11) k := congrArg (m_tail · k) (if_pos h)
theorem cell_lo (ns : List Int) (k : Int) : 0 ≤ m_law_cell ns k := Int.emod_nonneg _ (by decide)
theorem cell_hi (ns : List Int) (k : Int) : m_law_cell ns k < 2147483587 := Int.emod_lt_of_pos _ (by decide)
section
def S__law_cell (A : Ad) : DSp := fun ds μ kd _ => ∃ (ns : List Int) (k : Int), ds = [.fro (ns.map Dv.int), .int k] ∧ ns.length ≤ 63 ∧ kd (.int (m_law_cell ns k)) μ
end
/-! ### fields -/
theorem lookup_hit {f : Str} {x : Dv} {r : List (Str × Dv)} : (((f, x) :: r).lookup f) = some x := by rw [List.lookup_cons]; simp
theorem lookup_miss {f g : Str} {x : Dv} {r : List (Str × Dv)} (h : ¬ g = f) : (((f, x) :: r).lookup g) = r.lookup g := by
  rw [List.lookup_cons]
  have : (g == f) = false := by simpa using h
  rw [this]
theorem putD_nil {f : Str} {v : Dv} : putD f v [] = [(f, v)] := rfl
theorem putD_hit {f : Str} {v x : Dv} {r : List (Str × Dv)} : putD f v ((f, x) :: r) = (f, v) :: r := if_pos rfl
theorem putD_miss {f g : Str} {v x : Dv} {r : List (Str × Dv)} (h : ¬ g = f) : putD f v ((g, x) :: r) = (g, x) :: putD f v r := if_neg h
section
variable {K : Kf} {μ : M} {k : DK}
theorem d_eqOp (o : Option Int) {i : Int} (h : k (.bl (decide (o = some i))) μ) : DOp K (rEqA K) (opI o) (.int i) μ k := by
  cases o with
  | none => exact d_eqNI h
  | some j => exact d_eqI (by rw [show decide (some j = some i) = decide (j = i) by simp] at h; exact h)
theorem d_neOp (o : Option Int) {i : Int} (h : k (.bl (!decide (o = some i))) μ) : DOp K (rNeA K) (opI o) (.int i) μ k := by
  cases o with
  | none => exact d_neNI h
  | some j => exact d_neI (by rw [show decide (some j = some i) = decide (j = i) by simp] at h; exact h)
end
theorem putD_lt1 {f : Str} {v : Dv} : (putD f v []).length < 1000 := Nat.lt_of_le_of_lt (length_putD _ _ _) (by decide)
theorem putD_lt2 {f g : Str} {v w : Dv} : (putD f v (putD g w [])).length < 1000 := Nat.lt_of_le_of_lt (Nat.le_trans (length_putD _ _ _) (Nat.succ_le_succ (length_putD _ _ _))) (by decide)
theorem putD_lt3 {f g h : Str} {v w x : Dv} : (putD f v (putD g w (putD h x []))).length < 1000 := Nat.lt_of_le_of_lt (Nat.le_trans (length_putD _ _ _) (Nat.succ_le_succ (Nat.le_trans (length_putD _ _ _) (Nat.succ_le_succ (length_putD _ _ _))))) (by decide)
theorem putD_ltF {f : Str} {v : Dv} {fs : List (Str × Dv)} {m : Nat} (h : fs.length = m) (hm : m < 900) : (putD f v fs).length < 1000 := Nat.lt_of_le_of_lt (length_putD _ _ _) (by rw [h]; omega)
theorem len_ltE {fs : List (Str × Dv)} {m : Nat} (h : fs.length = m) (hm : m < 900) : fs.length < 1000 := by rw [h]; omega
theorem fm_if {α : Type} (P : α → Prop) [DecidablePred P] (f : α → Dv) (xs : List α) : xs.filterMap (fun p => if P p then some (f p) else none) = (xs.filter fun p => decide (P p)).map f := by
  induction xs with
  | nil => rfl
  | cons x r ih =>
    rw [List.filterMap_cons, List.filter_cons]
    by_cases h : P x
    · rw [if_pos h, if_pos (decide_eq_true h), List.map_cons, ← ih]
    · rw [if_neg h, if_neg (by simpa using h), ← ih]
theorem fm_some {α β : Type} (f : α → β) (xs : List α) : xs.filterMap (fun p => some (f p)) = xs.map f := by
  induction xs with
  | nil => rfl
  | cons x r ih => rw [List.filterMap_cons, List.map_cons, ← ih]
theorem fm_int {α : Type} (f : α → Int) (xs : List α) : xs.filterMap (fun p => some (Dv.int (f p))) = (xs.map f).map Dv.int := by
  rw [fm_some (fun p => Dv.int (f p)), List.map_map]; rfl
theorem map_item {α : Type} {f : α → Dv} {xs : List α} {j : Nat} {x : Dv} (h : (xs.map f)[j]? = some x) : ∃ p, xs[j]? = some p ∧ x = f p := by
  rw [List.getElem?_map] at h
  cases e : xs[j]? with
  | none => rw [e] at h; cases h
  | some p => rw [e] at h; cases h; exact ⟨p, rfl, rfl⟩
theorem drop_of_get {α : Type} {xs : List α} {j : Nat} {p : α} (h : xs[j]? = some p) : xs.drop j = p :: xs.drop (j + 1) := by
  obtain ⟨hj, e⟩ := List.getElem?_eq_some_iff.mp h
  rw [List.drop_eq_getElem_cons hj, e]
theorem and_dec {p q : Prop} [Decidable p] [Decidable q] (h : (decide p && decide q) = true) : p ∧ q := by
  rw [Bool.and_eq_true] at h
  exact ⟨of_decide_eq_true h.1, of_decide_eq_true h.2⟩
theorem nand_dec {p q : Prop} [Decidable p] [Decidable q] (h : (decide p && decide q) = false) : ¬ (p ∧ q) := fun ⟨a, b⟩ => by
  rw [decide_eq_true a, decide_eq_true b] at h
  cases h
theorem or_dec {p q : Prop} [Decidable p] [Decidable q] (h : (decide p || decide q) = true) : p ∨ q := by
  rw [Bool.or_eq_true] at h
  exact h.imp of_decide_eq_true of_decide_eq_true
theorem nor_dec {p q : Prop} [Decidable p] [Decidable q] (h : (decide p || decide q) = false) : ¬ p ∧ ¬ q := by
  rw [Bool.or_eq_false_iff] at h
  exact ⟨of_decide_eq_false h.1, of_decide_eq_false h.2⟩
theorem and_ndec {p q : Prop} [Decidable p] [Decidable q] (h : (decide p && !decide q) = true) : p ∧ ¬ q := by
  rw [Bool.and_eq_true] at h
  refine ⟨of_decide_eq_true h.1, fun z => ?_⟩
  have := h.2
  rw [decide_eq_true z] at this
  cases this
theorem nand_ndec {p q : Prop} [Decidable p] [Decidable q] (h : (decide p && !decide q) = false) : ¬ (p ∧ ¬ q) := fun ⟨a, b⟩ => by
  rw [decide_eq_true a, decide_eq_false b] at h
  cases h
section
variable {K : Kf} {μ : M} {k : DK}
theorem d_ixAny {xs : List Dv} {i : Int} (h0 : 0 ≤ i) (h1 : i < (xs.length : Int)) (h : ∀ d ∈ xs, k d μ) : DOp K (rIx K) (.lst xs) (.int i) μ k :=
  d_ixL (.lst _) (at_getD .non h0 h1) (h _ (by
    have hl : i.toNat < xs.length := by omega
    rw [List.getD_eq_getElem?_getD, List.getElem?_eq_getElem hl]
    exact List.getElem_mem _))
end
theorem nodup_take {α : Type} {xs : List α} {j : Nat} {a : α} (h : xs.Nodup) (ha : xs[j]? = some a) : a ∉ xs.take j := fun hm => by
  obtain ⟨i, hi⟩ := List.getElem?_of_mem hm
  have hil : i < j := by
    have := (List.getElem?_eq_some_iff.mp hi).1
    rw [List.length_take] at this; omega
  rw [List.getElem?_take, if_pos hil] at hi
  obtain ⟨h1, e1⟩ := List.getElem?_eq_some_iff.mp hi
  obtain ⟨h2, e2⟩ := List.getElem?_eq_some_iff.mp ha
  have := (List.nodup_iff_pairwise_ne.mp h)
  have hne := (List.pairwise_iff_getElem.mp this) i j h1 h2 hil
  exact hne (e1.trans e2.symm)
theorem take_succ_get {α : Type} {xs : List α} {j : Nat} {a : α} (ha : xs[j]? = some a) : xs.take (j + 1) = xs.take j ++ [a] := by
  rw [List.take_add_one, ha]; rfl

/-! ### refusals made as values -/
theorem rng_item1 {n j : Nat} {x : Dv} (h : (Src.rng 0 n).items[j]? = some x) : x = .int (j : Int) ∧ j < n := by
  have h' : ((List.range n).map fun (i : Nat) => Dv.int (0 + (i : Int)))[j]? = some x := h
  rw [List.getElem?_map] at h'
  by_cases z : j < n
  · rw [List.getElem?_range z] at h'
    cases h'
    exact ⟨show Dv.int (0 + (j : Int)) = _ by rw [Int.zero_add], z⟩
  · rw [List.getElem?_eq_none (by simpa using z)] at h'; cases h'
def mkD (A : Ad) (p a b : Int) : List Dv := [.exc A.CNB [], .exc A.CNM [], .exc A.CNC [], .exc A.CNN [], .exc A.CNP [], .exc A.CNV [], .exc A.CLT [], .exc A.CFU [], .exc A.CBR [], .exc A.CNE [("place", .int p)], .exc A.CBK [("stretch", .tup [.int a, .int b]), ("k", .int (p % 4))]]
def xcl (A : Ad) : List Addr := [A.CNB, A.CNM, A.CNC, A.CNN, A.CNP, A.CNV, A.CLT, A.CFU, A.CBR, A.CNE, A.CBK]
theorem mkD_at {A : Ad} {p a b : Int} {j : Nat} (h : j < 11) : ∃ C fs, (mkD A p a b)[j]? = some (.exc C fs) ∧ (xcl A)[j]? = some C := by
  obtain rfl | rfl | rfl | rfl | rfl | rfl | rfl | rfl | rfl | rfl | rfl : j = 0 ∨ j = 1 ∨ j = 2 ∨ j = 3 ∨ j = 4 ∨ j = 5 ∨ j = 6 ∨ j = 7 ∨ j = 8 ∨ j = 9 ∨ j = 10 := by omega
  all_goals exact ⟨_, _, rfl, rfl⟩
section
def S__law_kinds (A : Ad) : DSp := fun ds μ kd _ => ∃ (C : Addr) (fs : List (Str × Dv)) (i : Nat), ds = [.exc C fs] ∧ i < 11 ∧ (xcl A)[i]? = some C ∧ kd (.lst (((List.range 11).map fun j => decide (j = i)).map Dv.bl)) μ
end
theorem fm_bl (i : Nat) : (List.range 11).filterMap (fun j : Nat => some (Dv.bl (decide ((j : Int) = (i : Int))))) = ((List.range 11).map fun j => decide (j = i)).map Dv.bl := by
  rw [fm_some, List.map_map]
  refine List.map_congr_left fun j _ => ?_
  show Dv.bl _ = Dv.bl _
  congr 1
  exact decide_eq_decide.mpr Int.ofNat_inj
section
def S_law (A : Ad) : DSp := DL.spLaw
end

local macro_rules | `(tactic| walk_at "cm") => `(tactic| first | exact Or.inr ⟨by decide, by decide⟩ | exact Or.inl ⟨by decide, by decide⟩ | exact Or.inl ⟨by omega, by omega⟩ | exact Or.inr ⟨by omega, by omega⟩)
local macro_rules | `(tactic| walk_at "cd") => `(tactic| first | exact ⟨by decide, by decide⟩ | exact ⟨by omega, by omega⟩)
local macro_rules | `(tactic| walk_at "lens") => `(tactic| first | decide | assumption | (rw [List.length_map]; assumption) | (simp only [List.length_cons, List.length_nil, List.length_append, List.length_map, sizeLine_eq]; omega))
local macro_rules | `(tactic| walk_at "ix") => `(tactic| first | omega | (simp only [List.length_cons, List.length_nil, List.length_map]; omega))
local macro_rules | `(tactic| walk_at "le") => `(tactic| repeat (first | exact LeE.nil | refine LeE.same ?_ | refine LeE.drop ?_))
local macro_rules | `(tactic| walk_at "fl") => `(tactic| first | decide | exact putD_lt1 | exact putD_lt2 | exact putD_lt3 | exact putD_ltF (m := 4) rfl (by decide) | exact putD_ltF (m := 3) rfl (by decide) | exact len_ltE (m := 4) rfl (by decide) | exact len_ltE (m := 3) rfl (by decide) | exact len_ltE (m := 2) rfl (by decide))
local macro_rules | `(tactic| walk_at "sq") => `(tactic| first | assumption | exact .lst _ | exact .fro _ | exact .obj (by first | assumption | exact updM_same))
def top (i : Nat) : Stmt := PySem.Challenge.pw_turnstile_k01_refusals_apart.main.body.getD i (.Pass ⟨0, 0, 0, 0⟩)
abbrev s_Never_init : Stmt := inClass (top 11) 0
abbrev s_Broken_init : Stmt := inClass (top 12) 0
abbrev s__law_cell : Stmt := top 14
abbrev s__law_kinds : Stmt := top 15
abbrev s_law : Stmt := top 16
section
variable {Pg : Program} {w : World} {K : Kf} {mg : Str → Option Value} {base : Heap} {A : Ad}
theorem sc_Never_init : FnScope ["self", "place"] ["self", "place"] (defScope s_Never_init) := ⟨rfl, rfl, rfl, by decide +kernel, rfl, by decide +kernel, by decide +kernel⟩
theorem ok_Never_init {f : Addr} {fd : FuncData} (F : Fun K "__init__" "Never.__init__" s_Never_init f fd) (T : Txt K mg A) : FnOk Pg w K mg base (L2.CX Pg w) 1 f fd ["self", "place"] (sp1 "place" A.CNE) := by
  refine F.okX sc_Never_init (fun vs H Q E h => ?_) (fun cdv A_ outer s H vs Q E hr h => ?_)
  · obtain ⟨a, v, rfl, _⟩ := h; rfl
  · obtain ⟨a, v, rfl, ha, hk⟩ := h
    exact ⟨_, pss_cons (ps_expr (pe_geinit T.gei rfl (pa_cons (pv 0) (pa_cons pe_str pa_nil)))) (pss_one (ps_ost (pv 0) (pv 1))), ⟨.ref a, rfl, a, A.CNE, [.str _], rfl, by decide, T.oc_Never, ha, ⟨v, rfl, .ref a, rfl, a, A.CNE, rfl, T.oc_Never, T.na_Never_place, .inl ⟨ha, hk⟩⟩⟩⟩
theorem sc_Broken_init : FnScope ["self", "k", "stretch"] ["self", "k", "stretch"] (defScope s_Broken_init) := ⟨rfl, rfl, rfl, by decide +kernel, rfl, by decide +kernel, by decide +kernel⟩
theorem ok_Broken_init {f : Addr} {fd : FuncData} (F : Fun K "__init__" "Broken.__init__" s_Broken_init f fd) (T : Txt K mg A) : FnOk Pg w K mg base (L2.CX Pg w) 1 f fd ["self", "k", "stretch"] (sp2 "k" "stretch" A.CBK) := by
  refine F.okX sc_Broken_init (fun vs H Q E h => ?_) (fun cdv A_ outer s H vs Q E hr h => ?_)
  · obtain ⟨a, v, w, rfl, _⟩ := h; rfl
  · obtain ⟨a, v, w, rfl, ha, hk⟩ := h
    exact ⟨_, pss_cons (ps_expr (pe_geinit T.gei rfl (pa_cons (pv 0) (pa_cons pe_str pa_nil)))) (pss_cons (ps_ost (pv 0) (pv 1)) (pss_one (ps_ost (pv 0) (pv 2)))), ⟨.ref a, rfl, a, A.CBK, [.str _], rfl, by decide, T.oc_Broken, ha, ⟨v, rfl, .ref a, rfl, a, A.CBK, rfl, T.oc_Broken, T.na_Broken_k, .inl ⟨ha, fun dx hdx ne => ⟨w, rfl, .ref a, rfl, a, A.CBK, rfl, T.oc_Broken, T.na_Broken_stretch, .inr ⟨dx, _, upd_same, (upd_ne ne).trans upd_same, (show 1 ≤ 900 by decide), hk dx hdx ne⟩⟩⟩⟩⟩⟩
theorem sc__law_cell : FnScope ["_law_script", "_law_k", "_law_cell_here", "_law_more"] ["_law_script", "_law_k"] (defScope s__law_cell) := ⟨rfl, rfl, rfl, by decide +kernel, rfl, by decide +kernel, by decide +kernel⟩
theorem ok__law_cell {f : Addr} {fd : FuncData} (F : Fun K "_law_cell" "_law_cell" s__law_cell f fd) (T : Txt K mg A) : FnOk Pg w K mg base (L2.CX Pg w) 1 f fd ["_law_script", "_law_k"] (toSp K (S__law_cell A)) := by
  refine fn_data F sc__law_cell (fun ds μ kd ke h => ?_) (fun cdv A_ outer s H E c ow ds μ kd ke h => ?_)
  · obtain ⟨ns, _law_k, rfl, hns, hk⟩ := h; rfl
  · obtain ⟨ns, _law_k, rfl, hns, hk⟩ := h
    refine jb_cons (js_set 2 c rfl ?_)
    refine je_add ?_
    refine je_mul ?_
    refine je_int ?_
    refine je_name 1 rfl rfl ?_
    first | refine d_mulI (by walk_at "cm") ?_ | refine d_mulL1 (by constructor) (by omega) ?_
    refine je_int ?_
    first | refine d_addI ?_ | refine d_addL (by constructor) (by constructor) (by walk_at "lens") ?_ | refine d_addS (by walk_at "lens") ?_ | refine d_addT (by walk_at "lens") ?_
    refine jb_cons (js_if ?_)
    refine jt_ne c ?_
    refine je_name 0 rfl rfl ?_
    refine (je_lst ?_ : _)
    refine ja_nil ?_
    refine ⟨by walk_at "lens", ?_⟩
    first | refine d_neI ?_ | refine d_neNil Enc.int (by decide) _ (.inr rfl) ?_ | refine d_neNil encV (by decide) _ (.inl rfl) ?_ | refine d_neS ?_ | refine d_neB ?_ | refine d_neNI ?_
    refine ⟨_, rfl, ?_⟩
    refine ⟨fun h1 => ?_, fun h1 => ?_⟩
    · have hne : ¬ ns = [] := by simpa using h1
      have hpos : 0 < ns.length := List.length_pos_iff.mpr hne
      refine jb_cons (js_set 2 c rfl ?_)
      refine je_add ?_
      refine je_add ?_
      refine je_name 2 rfl rfl ?_
      refine je_mul ?_
      refine je_ix ?_
      refine je_name 0 rfl rfl ?_
      refine je_mod ?_
      refine je_name 1 rfl rfl ?_
      refine je_cB call_lenA T.m_len PySem.boot_len ?_
      refine ja_cons ?_
      refine je_name 0 rfl rfl ?_
      refine ja_nil ?_
      first | refine d_lenM (by walk_at "sq") ?_ | refine d_lenL (by walk_at "sq") ?_ | refine d_lenT ?_ | refine d_lenS (by walk_at "lens") ?_
      refine d_modI (by first | decide | omega) ?_
      refine d_ixInts ns (.fro _) (Int.emod_nonneg _ (by omega)) (Int.emod_lt_of_pos _ (by omega)) ?_
      refine je_int ?_
      first | refine d_mulI (by walk_at "cm") ?_ | refine d_mulL1 (by constructor) (by omega) ?_
      first | refine d_addI ?_ | refine d_addL (by constructor) (by constructor) (by walk_at "lens") ?_ | refine d_addS (by walk_at "lens") ?_ | refine d_addT (by walk_at "lens") ?_
      refine je_mul ?_
      refine je_int ?_
      refine je_name 1 rfl rfl ?_
      first | refine d_mulI (by walk_at "cm") ?_ | refine d_mulL1 (by constructor) (by omega) ?_
      first | refine d_addI ?_ | refine d_addL (by constructor) (by constructor) (by walk_at "lens") ?_ | refine d_addS (by walk_at "lens") ?_ | refine d_addT (by walk_at "lens") ?_
      refine jb_cons (js_set 2 c rfl ?_)
      refine je_add ?_
      refine je_name 2 rfl rfl ?_
      refine je_mul ?_
      refine je_fdiv ?_
      refine je_name 1 rfl rfl ?_
      refine je_cB call_lenA T.m_len PySem.boot_len ?_
      refine ja_cons ?_
      refine je_name 0 rfl rfl ?_
      refine ja_nil ?_
      first | refine d_lenM (by walk_at "sq") ?_ | refine d_lenL (by walk_at "sq") ?_ | refine d_lenT ?_ | refine d_lenS (by walk_at "lens") ?_
      refine d_fdivI (by walk_at "cd") ?_
      refine je_int ?_
      first | refine d_mulI (by walk_at "cm") ?_ | refine d_mulL1 (by constructor) (by omega) ?_
      first | refine d_addI ?_ | refine d_addL (by constructor) (by constructor) (by walk_at "lens") ?_ | refine d_addS (by walk_at "lens") ?_ | refine d_addT (by walk_at "lens") ?_
      refine jb_nil ?_
      refine jb_cons (js_set 3 c rfl ?_)
      refine je_mod ?_
      refine je_name 2 rfl rfl ?_
      refine je_int ?_
      refine d_modI (by first | decide | omega) ?_
      refine jb_cons (js_set 3 c rfl ?_)
      refine je_mod ?_
      refine je_mul ?_
      refine je_name 3 rfl rfl ?_
      refine je_name 3 rfl rfl ?_
      first | refine d_mulI (by walk_at "cm") ?_ | refine d_mulL1 (by constructor) (by omega) ?_
      refine je_int ?_
      refine d_modI (by first | decide | omega) ?_
      refine jb_cons (js_ret ?_)
      refine je_mod ?_
      refine je_add ?_
      refine je_add ?_
      refine je_mul ?_
      refine je_name 3 rfl rfl ?_
      refine je_name 3 rfl rfl ?_
      first | refine d_mulI (by walk_at "cm") ?_ | refine d_mulL1 (by constructor) (by omega) ?_
      refine je_mul ?_
      refine je_int ?_
      refine je_name 3 rfl rfl ?_
      first | refine d_mulI (by walk_at "cm") ?_ | refine d_mulL1 (by constructor) (by omega) ?_
      first | refine d_addI ?_ | refine d_addL (by constructor) (by constructor) (by walk_at "lens") ?_ | refine d_addS (by walk_at "lens") ?_ | refine d_addT (by walk_at "lens") ?_
      refine je_name 1 rfl rfl ?_
      first | refine d_addI ?_ | refine d_addL (by constructor) (by constructor) (by walk_at "lens") ?_ | refine d_addS (by walk_at "lens") ?_ | refine d_addT (by walk_at "lens") ?_
      refine je_int ?_
      refine d_modI (by first | decide | omega) ?_
      rw [cell_ne hne] at hk; exact hk
    have hne : ns = [] := by simpa using h1
    refine jb_nil ?_
    refine jb_cons (js_set 3 c rfl ?_)
    refine je_mod ?_
    refine je_name 2 rfl rfl ?_
    refine je_int ?_
    refine d_modI (by first | decide | omega) ?_
    refine jb_cons (js_set 3 c rfl ?_)
    refine je_mod ?_
    refine je_mul ?_
    refine je_name 3 rfl rfl ?_
    refine je_name 3 rfl rfl ?_
    first | refine d_mulI (by walk_at "cm") ?_ | refine d_mulL1 (by constructor) (by omega) ?_
    refine je_int ?_
    refine d_modI (by first | decide | omega) ?_
    refine jb_cons (js_ret ?_)
    refine je_mod ?_
    refine je_add ?_
    refine je_add ?_
    refine je_mul ?_
    refine je_name 3 rfl rfl ?_
    refine je_name 3 rfl rfl ?_
    first | refine d_mulI (by walk_at "cm") ?_ | refine d_mulL1 (by constructor) (by omega) ?_
    refine je_mul ?_
    refine je_int ?_
    refine je_name 3 rfl rfl ?_
    first | refine d_mulI (by walk_at "cm") ?_ | refine d_mulL1 (by constructor) (by omega) ?_
    first | refine d_addI ?_ | refine d_addL (by constructor) (by constructor) (by walk_at "lens") ?_ | refine d_addS (by walk_at "lens") ?_ | refine d_addT (by walk_at "lens") ?_
    refine je_name 1 rfl rfl ?_
    first | refine d_addI ?_ | refine d_addL (by constructor) (by constructor) (by walk_at "lens") ?_ | refine d_addS (by walk_at "lens") ?_ | refine d_addT (by walk_at "lens") ?_
    refine je_int ?_
    refine d_modI (by first | decide | omega) ?_
    rw [cell_nil hne] at hk; exact hk
theorem sc__law_kinds : FnScope ["_law_e", "_law_found"] ["_law_e"] (defScope s__law_kinds) := ⟨rfl, rfl, rfl, by decide +kernel, rfl, by decide +kernel, by decide +kernel⟩
theorem ok__law_kinds {f : Addr} {fd : FuncData} (F : Fun K "_law_kinds" "_law_kinds" s__law_kinds f fd) (T : Txt K mg A) : FnOk Pg w K mg base (L2.CX Pg w) 1 f fd ["_law_e"] (toSp K (S__law_kinds A)) := by
  refine fn_data F sc__law_kinds (fun ds μ kd ke h => ?_) (fun cdv A_ outer s H E c ow ds μ kd ke h => ?_)
  · obtain ⟨C, fs, i, rfl, hi, hC, hk⟩ := h; rfl
  · obtain ⟨C, fs, i, rfl, hi, hC, hk⟩ := h
    obtain rfl | rfl | rfl | rfl | rfl | rfl | rfl | rfl | rfl | rfl | rfl : i = 0 ∨ i = 1 ∨ i = 2 ∨ i = 3 ∨ i = 4 ∨ i = 5 ∨ i = 6 ∨ i = 7 ∨ i = 8 ∨ i = 9 ∨ i = 10 := by omega
    ·
      cases hC
      refine jb_cons (js_if ?_)
      refine jt_w ?_
      apply jw_orP
      ·
        refine jt_not ?_
        refine jt_val ?_
        refine je_cB call_isX T.m_isinstance PyProof.Rows.boot_isinstance ?_
        refine ja_cons ?_
        refine je_name 0 rfl rfl ?_
        refine ja_cons ?_
        refine je_glob T.g_GateError ?_
        refine ja_nil ?_
        refine d_isX T.xc_NoBound (.own _) T.kit_NoBound_GateError ?_
        refine ⟨_, rfl, ?_⟩
        exact ⟨rfl, rfl⟩
      ·
        intro h1
        refine jw_or1 ?_
        refine jt_not ?_
        refine jt_val ?_
        refine je_cB call_isX T.m_isinstance PyProof.Rows.boot_isinstance ?_
        refine ja_cons ?_
        refine je_name 0 rfl rfl ?_
        refine ja_cons ?_
        refine je_bty T.m_ValueError PyProof.Rows.Boot.«ValueError» ?_
        refine ja_nil ?_
        refine d_isX T.xc_NoBound (.ty _) T.kit_NoBound_ValueError ?_
        refine ⟨_, rfl, ?_⟩
        exact ⟨rfl, rfl⟩
      refine ⟨fun h2 => absurd h2 (by decide), fun h2 => ?_⟩
      refine jb_nil ?_
      refine jb_cons (js_set 1 c rfl ?_)
      refine (je_lst ?_ : _)
      refine ja_cons ?_
      refine je_cB call_isX T.m_isinstance PyProof.Rows.boot_isinstance ?_
      refine ja_cons ?_
      refine je_name 0 rfl rfl ?_
      refine ja_cons ?_
      refine je_glob T.g_NoBound ?_
      refine ja_nil ?_
      refine d_isX T.xc_NoBound (.own _) T.kit_NoBound_NoBound ?_
      refine ja_cons ?_
      refine je_cB call_isX T.m_isinstance PyProof.Rows.boot_isinstance ?_
      refine ja_cons ?_
      refine je_name 0 rfl rfl ?_
      refine ja_cons ?_
      refine je_glob T.g_NoMoment ?_
      refine ja_nil ?_
      refine d_isX T.xc_NoBound (.own _) T.kit_NoBound_NoMoment ?_
      refine ja_cons ?_
      refine je_cB call_isX T.m_isinstance PyProof.Rows.boot_isinstance ?_
      refine ja_cons ?_
      refine je_name 0 rfl rfl ?_
      refine ja_cons ?_
      refine je_glob T.g_NoCost ?_
      refine ja_nil ?_
      refine d_isX T.xc_NoBound (.own _) T.kit_NoBound_NoCost ?_
      refine ja_cons ?_
      refine je_cB call_isX T.m_isinstance PyProof.Rows.boot_isinstance ?_
      refine ja_cons ?_
      refine je_name 0 rfl rfl ?_
      refine ja_cons ?_
      refine je_glob T.g_NoName ?_
      refine ja_nil ?_
      refine d_isX T.xc_NoBound (.own _) T.kit_NoBound_NoName ?_
      refine ja_nil ?_
      refine ⟨by walk_at "lens", ?_⟩
      refine jb_cons (js_set 1 c rfl ?_)
      refine je_add ?_
      refine je_name 1 rfl rfl ?_
      refine (je_lst ?_ : _)
      refine ja_cons ?_
      refine je_cB call_isX T.m_isinstance PyProof.Rows.boot_isinstance ?_
      refine ja_cons ?_
      refine je_name 0 rfl rfl ?_
      refine ja_cons ?_
      refine je_glob T.g_NoPlace ?_
      refine ja_nil ?_
      refine d_isX T.xc_NoBound (.own _) T.kit_NoBound_NoPlace ?_
      refine ja_cons ?_
      refine je_cB call_isX T.m_isinstance PyProof.Rows.boot_isinstance ?_
      refine ja_cons ?_
      refine je_name 0 rfl rfl ?_
      refine ja_cons ?_
      refine je_glob T.g_NoVisit ?_
      refine ja_nil ?_
      refine d_isX T.xc_NoBound (.own _) T.kit_NoBound_NoVisit ?_
      refine ja_cons ?_
      refine je_cB call_isX T.m_isinstance PyProof.Rows.boot_isinstance ?_
      refine ja_cons ?_
      refine je_name 0 rfl rfl ?_
      refine ja_cons ?_
      refine je_glob T.g_Late ?_
      refine ja_nil ?_
      refine d_isX T.xc_NoBound (.own _) T.kit_NoBound_Late ?_
      refine ja_cons ?_
      refine je_cB call_isX T.m_isinstance PyProof.Rows.boot_isinstance ?_
      refine ja_cons ?_
      refine je_name 0 rfl rfl ?_
      refine ja_cons ?_
      refine je_glob T.g_Full ?_
      refine ja_nil ?_
      refine d_isX T.xc_NoBound (.own _) T.kit_NoBound_Full ?_
      refine ja_nil ?_
      refine ⟨by walk_at "lens", ?_⟩
      refine d_addL (.lst _) (.lst _) (by rw [sizeLine_eq]; simp) ?_
      refine jb_cons (js_ret ?_)
      refine je_add ?_
      refine je_name 1 rfl rfl ?_
      refine (je_lst ?_ : _)
      refine ja_cons ?_
      refine je_cB call_isX T.m_isinstance PyProof.Rows.boot_isinstance ?_
      refine ja_cons ?_
      refine je_name 0 rfl rfl ?_
      refine ja_cons ?_
      refine je_glob T.g_BadRow ?_
      refine ja_nil ?_
      refine d_isX T.xc_NoBound (.own _) T.kit_NoBound_BadRow ?_
      refine ja_cons ?_
      refine je_cB call_isX T.m_isinstance PyProof.Rows.boot_isinstance ?_
      refine ja_cons ?_
      refine je_name 0 rfl rfl ?_
      refine ja_cons ?_
      refine je_glob T.g_Never ?_
      refine ja_nil ?_
      refine d_isX T.xc_NoBound (.own _) T.kit_NoBound_Never ?_
      refine ja_cons ?_
      refine je_cB call_isX T.m_isinstance PyProof.Rows.boot_isinstance ?_
      refine ja_cons ?_
      refine je_name 0 rfl rfl ?_
      refine ja_cons ?_
      refine je_glob T.g_Broken ?_
      refine ja_nil ?_
      refine d_isX T.xc_NoBound (.own _) T.kit_NoBound_Broken ?_
      refine ja_nil ?_
      refine ⟨by walk_at "lens", ?_⟩
      refine d_addL (.lst _) (.lst _) (by rw [sizeLine_eq]; simp) ?_
      exact hk
    ·
      cases hC
      refine jb_cons (js_if ?_)
      refine jt_w ?_
      apply jw_orP
      ·
        refine jt_not ?_
        refine jt_val ?_
        refine je_cB call_isX T.m_isinstance PyProof.Rows.boot_isinstance ?_
        refine ja_cons ?_
        refine je_name 0 rfl rfl ?_
        refine ja_cons ?_
        refine je_glob T.g_GateError ?_
        refine ja_nil ?_
        refine d_isX T.xc_NoMoment (.own _) T.kit_NoMoment_GateError ?_
        refine ⟨_, rfl, ?_⟩
        exact ⟨rfl, rfl⟩
      ·
        intro h1
        refine jw_or1 ?_
        refine jt_not ?_
        refine jt_val ?_
        refine je_cB call_isX T.m_isinstance PyProof.Rows.boot_isinstance ?_
        refine ja_cons ?_
        refine je_name 0 rfl rfl ?_
        refine ja_cons ?_
        refine je_bty T.m_ValueError PyProof.Rows.Boot.«ValueError» ?_
        refine ja_nil ?_
        refine d_isX T.xc_NoMoment (.ty _) T.kit_NoMoment_ValueError ?_
        refine ⟨_, rfl, ?_⟩
        exact ⟨rfl, rfl⟩
      refine ⟨fun h2 => absurd h2 (by decide), fun h2 => ?_⟩
      refine jb_nil ?_
      refine jb_cons (js_set 1 c rfl ?_)
      refine (je_lst ?_ : _)
      refine ja_cons ?_
      refine je_cB call_isX T.m_isinstance PyProof.Rows.boot_isinstance ?_
      refine ja_cons ?_
      refine je_name 0 rfl rfl ?_
      refine ja_cons ?_
      refine je_glob T.g_NoBound ?_
      refine ja_nil ?_
      refine d_isX T.xc_NoMoment (.own _) T.kit_NoMoment_NoBound ?_
      refine ja_cons ?_
      refine je_cB call_isX T.m_isinstance PyProof.Rows.boot_isinstance ?_
      refine ja_cons ?_
      refine je_name 0 rfl rfl ?_
      refine ja_cons ?_
      refine je_glob T.g_NoMoment ?_
      refine ja_nil ?_
      refine d_isX T.xc_NoMoment (.own _) T.kit_NoMoment_NoMoment ?_
      refine ja_cons ?_
      refine je_cB call_isX T.m_isinstance PyProof.Rows.boot_isinstance ?_
      refine ja_cons ?_
      refine je_name 0 rfl rfl ?_
      refine ja_cons ?_
      refine je_glob T.g_NoCost ?_
      refine ja_nil ?_
      refine d_isX T.xc_NoMoment (.own _) T.kit_NoMoment_NoCost ?_
      refine ja_cons ?_
      refine je_cB call_isX T.m_isinstance PyProof.Rows.boot_isinstance ?_
      refine ja_cons ?_
      refine je_name 0 rfl rfl ?_
      refine ja_cons ?_
      refine je_glob T.g_NoName ?_
      refine ja_nil ?_
      refine d_isX T.xc_NoMoment (.own _) T.kit_NoMoment_NoName ?_
      refine ja_nil ?_
      refine ⟨by walk_at "lens", ?_⟩
      refine jb_cons (js_set 1 c rfl ?_)
      refine je_add ?_
      refine je_name 1 rfl rfl ?_
      refine (je_lst ?_ : _)
      refine ja_cons ?_
      refine je_cB call_isX T.m_isinstance PyProof.Rows.boot_isinstance ?_
      refine ja_cons ?_
      refine je_name 0 rfl rfl ?_
      refine ja_cons ?_
      refine je_glob T.g_NoPlace ?_
      refine ja_nil ?_
      refine d_isX T.xc_NoMoment (.own _) T.kit_NoMoment_NoPlace ?_
      refine ja_cons ?_
      refine je_cB call_isX T.m_isinstance PyProof.Rows.boot_isinstance ?_
      refine ja_cons ?_
      refine je_name 0 rfl rfl ?_
      refine ja_cons ?_
      refine je_glob T.g_NoVisit ?_
      refine ja_nil ?_
      refine d_isX T.xc_NoMoment (.own _) T.kit_NoMoment_NoVisit ?_
      refine ja_cons ?_
      refine je_cB call_isX T.m_isinstance PyProof.Rows.boot_isinstance ?_
      refine ja_cons ?_
      refine je_name 0 rfl rfl ?_
      refine ja_cons ?_
      refine je_glob T.g_Late ?_
      refine ja_nil ?_
      refine d_isX T.xc_NoMoment (.own _) T.kit_NoMoment_Late ?_
      refine ja_cons ?_
      refine je_cB call_isX T.m_isinstance PyProof.Rows.boot_isinstance ?_
      refine ja_cons ?_
      refine je_name 0 rfl rfl ?_
      refine ja_cons ?_
      refine je_glob T.g_Full ?_
      refine ja_nil ?_
      refine d_isX T.xc_NoMoment (.own _) T.kit_NoMoment_Full ?_
      refine ja_nil ?_
      refine ⟨by walk_at "lens", ?_⟩
      refine d_addL (.lst _) (.lst _) (by rw [sizeLine_eq]; simp) ?_
      refine jb_cons (js_ret ?_)
      refine je_add ?_
      refine je_name 1 rfl rfl ?_
      refine (je_lst ?_ : _)
      refine ja_cons ?_
      refine je_cB call_isX T.m_isinstance PyProof.Rows.boot_isinstance ?_
      refine ja_cons ?_
      refine je_name 0 rfl rfl ?_
      refine ja_cons ?_
      refine je_glob T.g_BadRow ?_
      refine ja_nil ?_
      refine d_isX T.xc_NoMoment (.own _) T.kit_NoMoment_BadRow ?_
      refine ja_cons ?_
      refine je_cB call_isX T.m_isinstance PyProof.Rows.boot_isinstance ?_
      refine ja_cons ?_
      refine je_name 0 rfl rfl ?_
      refine ja_cons ?_
      refine je_glob T.g_Never ?_
      refine ja_nil ?_
      refine d_isX T.xc_NoMoment (.own _) T.kit_NoMoment_Never ?_
      refine ja_cons ?_
      refine je_cB call_isX T.m_isinstance PyProof.Rows.boot_isinstance ?_
      refine ja_cons ?_
      refine je_name 0 rfl rfl ?_
      refine ja_cons ?_
      refine je_glob T.g_Broken ?_
      refine ja_nil ?_
      refine d_isX T.xc_NoMoment (.own _) T.kit_NoMoment_Broken ?_
      refine ja_nil ?_
      refine ⟨by walk_at "lens", ?_⟩
      refine d_addL (.lst _) (.lst _) (by rw [sizeLine_eq]; simp) ?_
      exact hk
    ·
      cases hC
      refine jb_cons (js_if ?_)
      refine jt_w ?_
      apply jw_orP
      ·
        refine jt_not ?_
        refine jt_val ?_
        refine je_cB call_isX T.m_isinstance PyProof.Rows.boot_isinstance ?_
        refine ja_cons ?_
        refine je_name 0 rfl rfl ?_
        refine ja_cons ?_
        refine je_glob T.g_GateError ?_
        refine ja_nil ?_
        refine d_isX T.xc_NoCost (.own _) T.kit_NoCost_GateError ?_
        refine ⟨_, rfl, ?_⟩
        exact ⟨rfl, rfl⟩
      ·
        intro h1
        refine jw_or1 ?_
        refine jt_not ?_
        refine jt_val ?_
        refine je_cB call_isX T.m_isinstance PyProof.Rows.boot_isinstance ?_
        refine ja_cons ?_
        refine je_name 0 rfl rfl ?_
        refine ja_cons ?_
        refine je_bty T.m_ValueError PyProof.Rows.Boot.«ValueError» ?_
        refine ja_nil ?_
        refine d_isX T.xc_NoCost (.ty _) T.kit_NoCost_ValueError ?_
        refine ⟨_, rfl, ?_⟩
        exact ⟨rfl, rfl⟩
      refine ⟨fun h2 => absurd h2 (by decide), fun h2 => ?_⟩
      refine jb_nil ?_
      refine jb_cons (js_set 1 c rfl ?_)
      refine (je_lst ?_ : _)
      refine ja_cons ?_
      refine je_cB call_isX T.m_isinstance PyProof.Rows.boot_isinstance ?_
      refine ja_cons ?_
      refine je_name 0 rfl rfl ?_
      refine ja_cons ?_
      refine je_glob T.g_NoBound ?_
      refine ja_nil ?_
      refine d_isX T.xc_NoCost (.own _) T.kit_NoCost_NoBound ?_
      refine ja_cons ?_
      refine je_cB call_isX T.m_isinstance PyProof.Rows.boot_isinstance ?_
      refine ja_cons ?_
      refine je_name 0 rfl rfl ?_
      refine ja_cons ?_
      refine je_glob T.g_NoMoment ?_
      refine ja_nil ?_
      refine d_isX T.xc_NoCost (.own _) T.kit_NoCost_NoMoment ?_
      refine ja_cons ?_
      refine je_cB call_isX T.m_isinstance PyProof.Rows.boot_isinstance ?_
      refine ja_cons ?_
      refine je_name 0 rfl rfl ?_
      refine ja_cons ?_
      refine je_glob T.g_NoCost ?_
      refine ja_nil ?_
      refine d_isX T.xc_NoCost (.own _) T.kit_NoCost_NoCost ?_
      refine ja_cons ?_
      refine je_cB call_isX T.m_isinstance PyProof.Rows.boot_isinstance ?_
      refine ja_cons ?_
      refine je_name 0 rfl rfl ?_
      refine ja_cons ?_
      refine je_glob T.g_NoName ?_
      refine ja_nil ?_
      refine d_isX T.xc_NoCost (.own _) T.kit_NoCost_NoName ?_
      refine ja_nil ?_
      refine ⟨by walk_at "lens", ?_⟩
      refine jb_cons (js_set 1 c rfl ?_)
      refine je_add ?_
      refine je_name 1 rfl rfl ?_
      refine (je_lst ?_ : _)
      refine ja_cons ?_
      refine je_cB call_isX T.m_isinstance PyProof.Rows.boot_isinstance ?_
      refine ja_cons ?_
      refine je_name 0 rfl rfl ?_
      refine ja_cons ?_
      refine je_glob T.g_NoPlace ?_
      refine ja_nil ?_
      refine d_isX T.xc_NoCost (.own _) T.kit_NoCost_NoPlace ?_
      refine ja_cons ?_
      refine je_cB call_isX T.m_isinstance PyProof.Rows.boot_isinstance ?_
      refine ja_cons ?_
      refine je_name 0 rfl rfl ?_
      refine ja_cons ?_
      refine je_glob T.g_NoVisit ?_
      refine ja_nil ?_
      refine d_isX T.xc_NoCost (.own _) T.kit_NoCost_NoVisit ?_
      refine ja_cons ?_
      refine je_cB call_isX T.m_isinstance PyProof.Rows.boot_isinstance ?_
      refine ja_cons ?_
      refine je_name 0 rfl rfl ?_
      refine ja_cons ?_
      refine je_glob T.g_Late ?_
      refine ja_nil ?_
      refine d_isX T.xc_NoCost (.own _) T.kit_NoCost_Late ?_
      refine ja_cons ?_
      refine je_cB call_isX T.m_isinstance PyProof.Rows.boot_isinstance ?_
      refine ja_cons ?_
      refine je_name 0 rfl rfl ?_
      refine ja_cons ?_
      refine je_glob T.g_Full ?_
      refine ja_nil ?_
      refine d_isX T.xc_NoCost (.own _) T.kit_NoCost_Full ?_
      refine ja_nil ?_
      refine ⟨by walk_at "lens", ?_⟩
      refine d_addL (.lst _) (.lst _) (by rw [sizeLine_eq]; simp) ?_
      refine jb_cons (js_ret ?_)
      refine je_add ?_
      refine je_name 1 rfl rfl ?_
      refine (je_lst ?_ : _)
      refine ja_cons ?_
      refine je_cB call_isX T.m_isinstance PyProof.Rows.boot_isinstance ?_
      refine ja_cons ?_
      refine je_name 0 rfl rfl ?_
      refine ja_cons ?_
      refine je_glob T.g_BadRow ?_
      refine ja_nil ?_
      refine d_isX T.xc_NoCost (.own _) T.kit_NoCost_BadRow ?_
      refine ja_cons ?_
      refine je_cB call_isX T.m_isinstance PyProof.Rows.boot_isinstance ?_
      refine ja_cons ?_
      refine je_name 0 rfl rfl ?_
      refine ja_cons ?_
      refine je_glob T.g_Never ?_
      refine ja_nil ?_
      refine d_isX T.xc_NoCost (.own _) T.kit_NoCost_Never ?_
      refine ja_cons ?_
      refine je_cB call_isX T.m_isinstance PyProof.Rows.boot_isinstance ?_
      refine ja_cons ?_
      refine je_name 0 rfl rfl ?_
      refine ja_cons ?_
      refine je_glob T.g_Broken ?_
      refine ja_nil ?_
      refine d_isX T.xc_NoCost (.own _) T.kit_NoCost_Broken ?_
      refine ja_nil ?_
      refine ⟨by walk_at "lens", ?_⟩
      refine d_addL (.lst _) (.lst _) (by rw [sizeLine_eq]; simp) ?_
      exact hk
    ·
      cases hC
      refine jb_cons (js_if ?_)
      refine jt_w ?_
      apply jw_orP
      ·
        refine jt_not ?_
        refine jt_val ?_
        refine je_cB call_isX T.m_isinstance PyProof.Rows.boot_isinstance ?_
        refine ja_cons ?_
        refine je_name 0 rfl rfl ?_
        refine ja_cons ?_
        refine je_glob T.g_GateError ?_
        refine ja_nil ?_
        refine d_isX T.xc_NoName (.own _) T.kit_NoName_GateError ?_
        refine ⟨_, rfl, ?_⟩
        exact ⟨rfl, rfl⟩
      ·
        intro h1
        refine jw_or1 ?_
        refine jt_not ?_
        refine jt_val ?_
        refine je_cB call_isX T.m_isinstance PyProof.Rows.boot_isinstance ?_
        refine ja_cons ?_
        refine je_name 0 rfl rfl ?_
        refine ja_cons ?_
        refine je_bty T.m_ValueError PyProof.Rows.Boot.«ValueError» ?_
        refine ja_nil ?_
        refine d_isX T.xc_NoName (.ty _) T.kit_NoName_ValueError ?_
        refine ⟨_, rfl, ?_⟩
        exact ⟨rfl, rfl⟩
      refine ⟨fun h2 => absurd h2 (by decide), fun h2 => ?_⟩
      refine jb_nil ?_
      refine jb_cons (js_set 1 c rfl ?_)
      refine (je_lst ?_ : _)
      refine ja_cons ?_
      refine je_cB call_isX T.m_isinstance PyProof.Rows.boot_isinstance ?_
      refine ja_cons ?_
      refine je_name 0 rfl rfl ?_
      refine ja_cons ?_
      refine je_glob T.g_NoBound ?_
      refine ja_nil ?_
      refine d_isX T.xc_NoName (.own _) T.kit_NoName_NoBound ?_
      refine ja_cons ?_
      refine je_cB call_isX T.m_isinstance PyProof.Rows.boot_isinstance ?_
      refine ja_cons ?_
      refine je_name 0 rfl rfl ?_
      refine ja_cons ?_
      refine je_glob T.g_NoMoment ?_
      refine ja_nil ?_
      refine d_isX T.xc_NoName (.own _) T.kit_NoName_NoMoment ?_
      refine ja_cons ?_
      refine je_cB call_isX T.m_isinstance PyProof.Rows.boot_isinstance ?_
      refine ja_cons ?_
      refine je_name 0 rfl rfl ?_
      refine ja_cons ?_
      refine je_glob T.g_NoCost ?_
      refine ja_nil ?_
      refine d_isX T.xc_NoName (.own _) T.kit_NoName_NoCost ?_
      refine ja_cons ?_
      refine je_cB call_isX T.m_isinstance PyProof.Rows.boot_isinstance ?_
      refine ja_cons ?_
      refine je_name 0 rfl rfl ?_
      refine ja_cons ?_
      refine je_glob T.g_NoName ?_
      refine ja_nil ?_
      refine d_isX T.xc_NoName (.own _) T.kit_NoName_NoName ?_
      refine ja_nil ?_
      refine ⟨by walk_at "lens", ?_⟩
      refine jb_cons (js_set 1 c rfl ?_)
      refine je_add ?_
      refine je_name 1 rfl rfl ?_
      refine (je_lst ?_ : _)
      refine ja_cons ?_
      refine je_cB call_isX T.m_isinstance PyProof.Rows.boot_isinstance ?_
      refine ja_cons ?_
      refine je_name 0 rfl rfl ?_
      refine ja_cons ?_
      refine je_glob T.g_NoPlace ?_
      refine ja_nil ?_
      refine d_isX T.xc_NoName (.own _) T.kit_NoName_NoPlace ?_
      refine ja_cons ?_
      refine je_cB call_isX T.m_isinstance PyProof.Rows.boot_isinstance ?_
      refine ja_cons ?_
      refine je_name 0 rfl rfl ?_
      refine ja_cons ?_
      refine je_glob T.g_NoVisit ?_
      refine ja_nil ?_
      refine d_isX T.xc_NoName (.own _) T.kit_NoName_NoVisit ?_
      refine ja_cons ?_
      refine je_cB call_isX T.m_isinstance PyProof.Rows.boot_isinstance ?_
      refine ja_cons ?_
      refine je_name 0 rfl rfl ?_
      refine ja_cons ?_
      refine je_glob T.g_Late ?_
      refine ja_nil ?_
      refine d_isX T.xc_NoName (.own _) T.kit_NoName_Late ?_
      refine ja_cons ?_
      refine je_cB call_isX T.m_isinstance PyProof.Rows.boot_isinstance ?_
      refine ja_cons ?_
      refine je_name 0 rfl rfl ?_
      refine ja_cons ?_
      refine je_glob T.g_Full ?_
      refine ja_nil ?_
      refine d_isX T.xc_NoName (.own _) T.kit_NoName_Full ?_
      refine ja_nil ?_
      refine ⟨by walk_at "lens", ?_⟩
      refine d_addL (.lst _) (.lst _) (by rw [sizeLine_eq]; simp) ?_
      refine jb_cons (js_ret ?_)
      refine je_add ?_
      refine je_name 1 rfl rfl ?_
      refine (je_lst ?_ : _)
      refine ja_cons ?_
      refine je_cB call_isX T.m_isinstance PyProof.Rows.boot_isinstance ?_
      refine ja_cons ?_
      refine je_name 0 rfl rfl ?_
      refine ja_cons ?_
      refine je_glob T.g_BadRow ?_
      refine ja_nil ?_
      refine d_isX T.xc_NoName (.own _) T.kit_NoName_BadRow ?_
      refine ja_cons ?_
      refine je_cB call_isX T.m_isinstance PyProof.Rows.boot_isinstance ?_
      refine ja_cons ?_
      refine je_name 0 rfl rfl ?_
      refine ja_cons ?_
      refine je_glob T.g_Never ?_
      refine ja_nil ?_
      refine d_isX T.xc_NoName (.own _) T.kit_NoName_Never ?_
      refine ja_cons ?_
      refine je_cB call_isX T.m_isinstance PyProof.Rows.boot_isinstance ?_
      refine ja_cons ?_
      refine je_name 0 rfl rfl ?_
      refine ja_cons ?_
      refine je_glob T.g_Broken ?_
      refine ja_nil ?_
      refine d_isX T.xc_NoName (.own _) T.kit_NoName_Broken ?_
      refine ja_nil ?_
      refine ⟨by walk_at "lens", ?_⟩
      refine d_addL (.lst _) (.lst _) (by rw [sizeLine_eq]; simp) ?_
      exact hk
    ·
      cases hC
      refine jb_cons (js_if ?_)
      refine jt_w ?_
      apply jw_orP
      ·
        refine jt_not ?_
        refine jt_val ?_
        refine je_cB call_isX T.m_isinstance PyProof.Rows.boot_isinstance ?_
        refine ja_cons ?_
        refine je_name 0 rfl rfl ?_
        refine ja_cons ?_
        refine je_glob T.g_GateError ?_
        refine ja_nil ?_
        refine d_isX T.xc_NoPlace (.own _) T.kit_NoPlace_GateError ?_
        refine ⟨_, rfl, ?_⟩
        exact ⟨rfl, rfl⟩
      ·
        intro h1
        refine jw_or1 ?_
        refine jt_not ?_
        refine jt_val ?_
        refine je_cB call_isX T.m_isinstance PyProof.Rows.boot_isinstance ?_
        refine ja_cons ?_
        refine je_name 0 rfl rfl ?_
        refine ja_cons ?_
        refine je_bty T.m_ValueError PyProof.Rows.Boot.«ValueError» ?_
        refine ja_nil ?_
        refine d_isX T.xc_NoPlace (.ty _) T.kit_NoPlace_ValueError ?_
        refine ⟨_, rfl, ?_⟩
        exact ⟨rfl, rfl⟩
      refine ⟨fun h2 => absurd h2 (by decide), fun h2 => ?_⟩
      refine jb_nil ?_
      refine jb_cons (js_set 1 c rfl ?_)
      refine (je_lst ?_ : _)
      refine ja_cons ?_
      refine je_cB call_isX T.m_isinstance PyProof.Rows.boot_isinstance ?_
      refine ja_cons ?_
      refine je_name 0 rfl rfl ?_
      refine ja_cons ?_
      refine je_glob T.g_NoBound ?_
      refine ja_nil ?_
      refine d_isX T.xc_NoPlace (.own _) T.kit_NoPlace_NoBound ?_
      refine ja_cons ?_
      refine je_cB call_isX T.m_isinstance PyProof.Rows.boot_isinstance ?_
      refine ja_cons ?_
      refine je_name 0 rfl rfl ?_
      refine ja_cons ?_
      refine je_glob T.g_NoMoment ?_
      refine ja_nil ?_
      refine d_isX T.xc_NoPlace (.own _) T.kit_NoPlace_NoMoment ?_
      refine ja_cons ?_
      refine je_cB call_isX T.m_isinstance PyProof.Rows.boot_isinstance ?_
      refine ja_cons ?_
      refine je_name 0 rfl rfl ?_
      refine ja_cons ?_
      refine je_glob T.g_NoCost ?_
      refine ja_nil ?_
      refine d_isX T.xc_NoPlace (.own _) T.kit_NoPlace_NoCost ?_
      refine ja_cons ?_
      refine je_cB call_isX T.m_isinstance PyProof.Rows.boot_isinstance ?_
      refine ja_cons ?_
      refine je_name 0 rfl rfl ?_
      refine ja_cons ?_
      refine je_glob T.g_NoName ?_
      refine ja_nil ?_
      refine d_isX T.xc_NoPlace (.own _) T.kit_NoPlace_NoName ?_
      refine ja_nil ?_
      refine ⟨by walk_at "lens", ?_⟩
      refine jb_cons (js_set 1 c rfl ?_)
      refine je_add ?_
      refine je_name 1 rfl rfl ?_
      refine (je_lst ?_ : _)
      refine ja_cons ?_
      refine je_cB call_isX T.m_isinstance PyProof.Rows.boot_isinstance ?_
      refine ja_cons ?_
      refine je_name 0 rfl rfl ?_
      refine ja_cons ?_
      refine je_glob T.g_NoPlace ?_
      refine ja_nil ?_
      refine d_isX T.xc_NoPlace (.own _) T.kit_NoPlace_NoPlace ?_
      refine ja_cons ?_
      refine je_cB call_isX T.m_isinstance PyProof.Rows.boot_isinstance ?_
      refine ja_cons ?_
      refine je_name 0 rfl rfl ?_
      refine ja_cons ?_
      refine je_glob T.g_NoVisit ?_
      refine ja_nil ?_
      refine d_isX T.xc_NoPlace (.own _) T.kit_NoPlace_NoVisit ?_
      refine ja_cons ?_
      refine je_cB call_isX T.m_isinstance PyProof.Rows.boot_isinstance ?_
      refine ja_cons ?_
      refine je_name 0 rfl rfl ?_
      refine ja_cons ?_
      refine je_glob T.g_Late ?_
      refine ja_nil ?_
      refine d_isX T.xc_NoPlace (.own _) T.kit_NoPlace_Late ?_
      refine ja_cons ?_
      refine je_cB call_isX T.m_isinstance PyProof.Rows.boot_isinstance ?_
      refine ja_cons ?_
      refine je_name 0 rfl rfl ?_
      refine ja_cons ?_
      refine je_glob T.g_Full ?_
      refine ja_nil ?_
      refine d_isX T.xc_NoPlace (.own _) T.kit_NoPlace_Full ?_
      refine ja_nil ?_
      refine ⟨by walk_at "lens", ?_⟩
      refine d_addL (.lst _) (.lst _) (by rw [sizeLine_eq]; simp) ?_
      refine jb_cons (js_ret ?_)
      refine je_add ?_
      refine je_name 1 rfl rfl ?_
      refine (je_lst ?_ : _)
      refine ja_cons ?_
      refine je_cB call_isX T.m_isinstance PyProof.Rows.boot_isinstance ?_
      refine ja_cons ?_
      refine je_name 0 rfl rfl ?_
      refine ja_cons ?_
      refine je_glob T.g_BadRow ?_
      refine ja_nil ?_
      refine d_isX T.xc_NoPlace (.own _) T.kit_NoPlace_BadRow ?_
      refine ja_cons ?_
      refine je_cB call_isX T.m_isinstance PyProof.Rows.boot_isinstance ?_
      refine ja_cons ?_
      refine je_name 0 rfl rfl ?_
      refine ja_cons ?_
      refine je_glob T.g_Never ?_
      refine ja_nil ?_
      refine d_isX T.xc_NoPlace (.own _) T.kit_NoPlace_Never ?_
      refine ja_cons ?_
      refine je_cB call_isX T.m_isinstance PyProof.Rows.boot_isinstance ?_
      refine ja_cons ?_
      refine je_name 0 rfl rfl ?_
      refine ja_cons ?_
      refine je_glob T.g_Broken ?_
      refine ja_nil ?_
      refine d_isX T.xc_NoPlace (.own _) T.kit_NoPlace_Broken ?_
      refine ja_nil ?_
      refine ⟨by walk_at "lens", ?_⟩
      refine d_addL (.lst _) (.lst _) (by rw [sizeLine_eq]; simp) ?_
      exact hk
    ·
      cases hC
      refine jb_cons (js_if ?_)
      refine jt_w ?_
      apply jw_orP
      ·
        refine jt_not ?_
        refine jt_val ?_
        refine je_cB call_isX T.m_isinstance PyProof.Rows.boot_isinstance ?_
        refine ja_cons ?_
        refine je_name 0 rfl rfl ?_
        refine ja_cons ?_
        refine je_glob T.g_GateError ?_
        refine ja_nil ?_
        refine d_isX T.xc_NoVisit (.own _) T.kit_NoVisit_GateError ?_
        refine ⟨_, rfl, ?_⟩
        exact ⟨rfl, rfl⟩
      ·
        intro h1
        refine jw_or1 ?_
        refine jt_not ?_
        refine jt_val ?_
        refine je_cB call_isX T.m_isinstance PyProof.Rows.boot_isinstance ?_
        refine ja_cons ?_
        refine je_name 0 rfl rfl ?_
        refine ja_cons ?_
        refine je_bty T.m_ValueError PyProof.Rows.Boot.«ValueError» ?_
        refine ja_nil ?_
        refine d_isX T.xc_NoVisit (.ty _) T.kit_NoVisit_ValueError ?_
        refine ⟨_, rfl, ?_⟩
        exact ⟨rfl, rfl⟩
      refine ⟨fun h2 => absurd h2 (by decide), fun h2 => ?_⟩
      refine jb_nil ?_
      refine jb_cons (js_set 1 c rfl ?_)
      refine (je_lst ?_ : _)
      refine ja_cons ?_
      refine je_cB call_isX T.m_isinstance PyProof.Rows.boot_isinstance ?_
      refine ja_cons ?_
      refine je_name 0 rfl rfl ?_
      refine ja_cons ?_
      refine je_glob T.g_NoBound ?_
      refine ja_nil ?_
      refine d_isX T.xc_NoVisit (.own _) T.kit_NoVisit_NoBound ?_
      refine ja_cons ?_
      refine je_cB call_isX T.m_isinstance PyProof.Rows.boot_isinstance ?_
      refine ja_cons ?_
      refine je_name 0 rfl rfl ?_
      refine ja_cons ?_
      refine je_glob T.g_NoMoment ?_
      refine ja_nil ?_
      refine d_isX T.xc_NoVisit (.own _) T.kit_NoVisit_NoMoment ?_
      refine ja_cons ?_
      refine je_cB call_isX T.m_isinstance PyProof.Rows.boot_isinstance ?_
      refine ja_cons ?_
      refine je_name 0 rfl rfl ?_
      refine ja_cons ?_
      refine je_glob T.g_NoCost ?_
      refine ja_nil ?_
      refine d_isX T.xc_NoVisit (.own _) T.kit_NoVisit_NoCost ?_
      refine ja_cons ?_
      refine je_cB call_isX T.m_isinstance PyProof.Rows.boot_isinstance ?_
      refine ja_cons ?_
      refine je_name 0 rfl rfl ?_
      refine ja_cons ?_
      refine je_glob T.g_NoName ?_
      refine ja_nil ?_
      refine d_isX T.xc_NoVisit (.own _) T.kit_NoVisit_NoName ?_
      refine ja_nil ?_
      refine ⟨by walk_at "lens", ?_⟩
      refine jb_cons (js_set 1 c rfl ?_)
      refine je_add ?_
      refine je_name 1 rfl rfl ?_
      refine (je_lst ?_ : _)
      refine ja_cons ?_
      refine je_cB call_isX T.m_isinstance PyProof.Rows.boot_isinstance ?_
      refine ja_cons ?_
      refine je_name 0 rfl rfl ?_
      refine ja_cons ?_
      refine je_glob T.g_NoPlace ?_
      refine ja_nil ?_
      refine d_isX T.xc_NoVisit (.own _) T.kit_NoVisit_NoPlace ?_
      refine ja_cons ?_
      refine je_cB call_isX T.m_isinstance PyProof.Rows.boot_isinstance ?_
      refine ja_cons ?_
      refine je_name 0 rfl rfl ?_
      refine ja_cons ?_
      refine je_glob T.g_NoVisit ?_
      refine ja_nil ?_
      refine d_isX T.xc_NoVisit (.own _) T.kit_NoVisit_NoVisit ?_
      refine ja_cons ?_
      refine je_cB call_isX T.m_isinstance PyProof.Rows.boot_isinstance ?_
      refine ja_cons ?_
      refine je_name 0 rfl rfl ?_
      refine ja_cons ?_
      refine je_glob T.g_Late ?_
      refine ja_nil ?_
      refine d_isX T.xc_NoVisit (.own _) T.kit_NoVisit_Late ?_
      refine ja_cons ?_
      refine je_cB call_isX T.m_isinstance PyProof.Rows.boot_isinstance ?_
      refine ja_cons ?_
      refine je_name 0 rfl rfl ?_
      refine ja_cons ?_
      refine je_glob T.g_Full ?_
      refine ja_nil ?_
      refine d_isX T.xc_NoVisit (.own _) T.kit_NoVisit_Full ?_
      refine ja_nil ?_
      refine ⟨by walk_at "lens", ?_⟩
      refine d_addL (.lst _) (.lst _) (by rw [sizeLine_eq]; simp) ?_
      refine jb_cons (js_ret ?_)
      refine je_add ?_
      refine je_name 1 rfl rfl ?_
      refine (je_lst ?_ : _)
      refine ja_cons ?_
      refine je_cB call_isX T.m_isinstance PyProof.Rows.boot_isinstance ?_
      refine ja_cons ?_
      refine je_name 0 rfl rfl ?_
      refine ja_cons ?_
      refine je_glob T.g_BadRow ?_
      refine ja_nil ?_
      refine d_isX T.xc_NoVisit (.own _) T.kit_NoVisit_BadRow ?_
      refine ja_cons ?_
      refine je_cB call_isX T.m_isinstance PyProof.Rows.boot_isinstance ?_
      refine ja_cons ?_
      refine je_name 0 rfl rfl ?_
      refine ja_cons ?_
      refine je_glob T.g_Never ?_
      refine ja_nil ?_
      refine d_isX T.xc_NoVisit (.own _) T.kit_NoVisit_Never ?_
      refine ja_cons ?_
      refine je_cB call_isX T.m_isinstance PyProof.Rows.boot_isinstance ?_
      refine ja_cons ?_
      refine je_name 0 rfl rfl ?_
      refine ja_cons ?_
      refine je_glob T.g_Broken ?_
      refine ja_nil ?_
      refine d_isX T.xc_NoVisit (.own _) T.kit_NoVisit_Broken ?_
      refine ja_nil ?_
      refine ⟨by walk_at "lens", ?_⟩
      refine d_addL (.lst _) (.lst _) (by rw [sizeLine_eq]; simp) ?_
      exact hk
    ·
      cases hC
      refine jb_cons (js_if ?_)
      refine jt_w ?_
      apply jw_orP
      ·
        refine jt_not ?_
        refine jt_val ?_
        refine je_cB call_isX T.m_isinstance PyProof.Rows.boot_isinstance ?_
        refine ja_cons ?_
        refine je_name 0 rfl rfl ?_
        refine ja_cons ?_
        refine je_glob T.g_GateError ?_
        refine ja_nil ?_
        refine d_isX T.xc_Late (.own _) T.kit_Late_GateError ?_
        refine ⟨_, rfl, ?_⟩
        exact ⟨rfl, rfl⟩
      ·
        intro h1
        refine jw_or1 ?_
        refine jt_not ?_
        refine jt_val ?_
        refine je_cB call_isX T.m_isinstance PyProof.Rows.boot_isinstance ?_
        refine ja_cons ?_
        refine je_name 0 rfl rfl ?_
        refine ja_cons ?_
        refine je_bty T.m_ValueError PyProof.Rows.Boot.«ValueError» ?_
        refine ja_nil ?_
        refine d_isX T.xc_Late (.ty _) T.kit_Late_ValueError ?_
        refine ⟨_, rfl, ?_⟩
        exact ⟨rfl, rfl⟩
      refine ⟨fun h2 => absurd h2 (by decide), fun h2 => ?_⟩
      refine jb_nil ?_
      refine jb_cons (js_set 1 c rfl ?_)
      refine (je_lst ?_ : _)
      refine ja_cons ?_
      refine je_cB call_isX T.m_isinstance PyProof.Rows.boot_isinstance ?_
      refine ja_cons ?_
      refine je_name 0 rfl rfl ?_
      refine ja_cons ?_
      refine je_glob T.g_NoBound ?_
      refine ja_nil ?_
      refine d_isX T.xc_Late (.own _) T.kit_Late_NoBound ?_
      refine ja_cons ?_
      refine je_cB call_isX T.m_isinstance PyProof.Rows.boot_isinstance ?_
      refine ja_cons ?_
      refine je_name 0 rfl rfl ?_
      refine ja_cons ?_
      refine je_glob T.g_NoMoment ?_
      refine ja_nil ?_
      refine d_isX T.xc_Late (.own _) T.kit_Late_NoMoment ?_
      refine ja_cons ?_
      refine je_cB call_isX T.m_isinstance PyProof.Rows.boot_isinstance ?_
      refine ja_cons ?_
      refine je_name 0 rfl rfl ?_
      refine ja_cons ?_
      refine je_glob T.g_NoCost ?_
      refine ja_nil ?_
      refine d_isX T.xc_Late (.own _) T.kit_Late_NoCost ?_
      refine ja_cons ?_
      refine je_cB call_isX T.m_isinstance PyProof.Rows.boot_isinstance ?_
      refine ja_cons ?_
      refine je_name 0 rfl rfl ?_
      refine ja_cons ?_
      refine je_glob T.g_NoName ?_
      refine ja_nil ?_
      refine d_isX T.xc_Late (.own _) T.kit_Late_NoName ?_
      refine ja_nil ?_
      refine ⟨by walk_at "lens", ?_⟩
      refine jb_cons (js_set 1 c rfl ?_)
      refine je_add ?_
      refine je_name 1 rfl rfl ?_
      refine (je_lst ?_ : _)
      refine ja_cons ?_
      refine je_cB call_isX T.m_isinstance PyProof.Rows.boot_isinstance ?_
      refine ja_cons ?_
      refine je_name 0 rfl rfl ?_
      refine ja_cons ?_
      refine je_glob T.g_NoPlace ?_
      refine ja_nil ?_
      refine d_isX T.xc_Late (.own _) T.kit_Late_NoPlace ?_
      refine ja_cons ?_
      refine je_cB call_isX T.m_isinstance PyProof.Rows.boot_isinstance ?_
      refine ja_cons ?_
      refine je_name 0 rfl rfl ?_
      refine ja_cons ?_
      refine je_glob T.g_NoVisit ?_
      refine ja_nil ?_
      refine d_isX T.xc_Late (.own _) T.kit_Late_NoVisit ?_
      refine ja_cons ?_
      refine je_cB call_isX T.m_isinstance PyProof.Rows.boot_isinstance ?_
      refine ja_cons ?_
      refine je_name 0 rfl rfl ?_
      refine ja_cons ?_
      refine je_glob T.g_Late ?_
      refine ja_nil ?_
      refine d_isX T.xc_Late (.own _) T.kit_Late_Late ?_
      refine ja_cons ?_
      refine je_cB call_isX T.m_isinstance PyProof.Rows.boot_isinstance ?_
      refine ja_cons ?_
      refine je_name 0 rfl rfl ?_
      refine ja_cons ?_
      refine je_glob T.g_Full ?_
      refine ja_nil ?_
      refine d_isX T.xc_Late (.own _) T.kit_Late_Full ?_
      refine ja_nil ?_
      refine ⟨by walk_at "lens", ?_⟩
      refine d_addL (.lst _) (.lst _) (by rw [sizeLine_eq]; simp) ?_
      refine jb_cons (js_ret ?_)
      refine je_add ?_
      refine je_name 1 rfl rfl ?_
      refine (je_lst ?_ : _)
      refine ja_cons ?_
      refine je_cB call_isX T.m_isinstance PyProof.Rows.boot_isinstance ?_
      refine ja_cons ?_
      refine je_name 0 rfl rfl ?_
      refine ja_cons ?_
      refine je_glob T.g_BadRow ?_
      refine ja_nil ?_
      refine d_isX T.xc_Late (.own _) T.kit_Late_BadRow ?_
      refine ja_cons ?_
      refine je_cB call_isX T.m_isinstance PyProof.Rows.boot_isinstance ?_
      refine ja_cons ?_
      refine je_name 0 rfl rfl ?_
      refine ja_cons ?_
      refine je_glob T.g_Never ?_
      refine ja_nil ?_
      refine d_isX T.xc_Late (.own _) T.kit_Late_Never ?_
      refine ja_cons ?_
      refine je_cB call_isX T.m_isinstance PyProof.Rows.boot_isinstance ?_
      refine ja_cons ?_
      refine je_name 0 rfl rfl ?_
      refine ja_cons ?_
      refine je_glob T.g_Broken ?_
      refine ja_nil ?_
      refine d_isX T.xc_Late (.own _) T.kit_Late_Broken ?_
      refine ja_nil ?_
      refine ⟨by walk_at "lens", ?_⟩
      refine d_addL (.lst _) (.lst _) (by rw [sizeLine_eq]; simp) ?_
      exact hk
    ·
      cases hC
      refine jb_cons (js_if ?_)
      refine jt_w ?_
      apply jw_orP
      ·
        refine jt_not ?_
        refine jt_val ?_
        refine je_cB call_isX T.m_isinstance PyProof.Rows.boot_isinstance ?_
        refine ja_cons ?_
        refine je_name 0 rfl rfl ?_
        refine ja_cons ?_
        refine je_glob T.g_GateError ?_
        refine ja_nil ?_
        refine d_isX T.xc_Full (.own _) T.kit_Full_GateError ?_
        refine ⟨_, rfl, ?_⟩
        exact ⟨rfl, rfl⟩
      ·
        intro h1
        refine jw_or1 ?_
        refine jt_not ?_
        refine jt_val ?_
        refine je_cB call_isX T.m_isinstance PyProof.Rows.boot_isinstance ?_
        refine ja_cons ?_
        refine je_name 0 rfl rfl ?_
        refine ja_cons ?_
        refine je_bty T.m_ValueError PyProof.Rows.Boot.«ValueError» ?_
        refine ja_nil ?_
        refine d_isX T.xc_Full (.ty _) T.kit_Full_ValueError ?_
        refine ⟨_, rfl, ?_⟩
        exact ⟨rfl, rfl⟩
      refine ⟨fun h2 => absurd h2 (by decide), fun h2 => ?_⟩
      refine jb_nil ?_
      refine jb_cons (js_set 1 c rfl ?_)
      refine (je_lst ?_ : _)
      refine ja_cons ?_
      refine je_cB call_isX T.m_isinstance PyProof.Rows.boot_isinstance ?_
      refine ja_cons ?_
      refine je_name 0 rfl rfl ?_
      refine ja_cons ?_
      refine je_glob T.g_NoBound ?_
      refine ja_nil ?_
      refine d_isX T.xc_Full (.own _) T.kit_Full_NoBound ?_
      refine ja_cons ?_
      refine je_cB call_isX T.m_isinstance PyProof.Rows.boot_isinstance ?_
      refine ja_cons ?_
      refine je_name 0 rfl rfl ?_
      refine ja_cons ?_
      refine je_glob T.g_NoMoment ?_
      refine ja_nil ?_
      refine d_isX T.xc_Full (.own _) T.kit_Full_NoMoment ?_
      refine ja_cons ?_
      refine je_cB call_isX T.m_isinstance PyProof.Rows.boot_isinstance ?_
      refine ja_cons ?_
      refine je_name 0 rfl rfl ?_
      refine ja_cons ?_
      refine je_glob T.g_NoCost ?_
      refine ja_nil ?_
      refine d_isX T.xc_Full (.own _) T.kit_Full_NoCost ?_
      refine ja_cons ?_
      refine je_cB call_isX T.m_isinstance PyProof.Rows.boot_isinstance ?_
      refine ja_cons ?_
      refine je_name 0 rfl rfl ?_
      refine ja_cons ?_
      refine je_glob T.g_NoName ?_
      refine ja_nil ?_
      refine d_isX T.xc_Full (.own _) T.kit_Full_NoName ?_
      refine ja_nil ?_
      refine ⟨by walk_at "lens", ?_⟩
      refine jb_cons (js_set 1 c rfl ?_)
      refine je_add ?_
      refine je_name 1 rfl rfl ?_
      refine (je_lst ?_ : _)
      refine ja_cons ?_
      refine je_cB call_isX T.m_isinstance PyProof.Rows.boot_isinstance ?_
      refine ja_cons ?_
      refine je_name 0 rfl rfl ?_
      refine ja_cons ?_
      refine je_glob T.g_NoPlace ?_
      refine ja_nil ?_
      refine d_isX T.xc_Full (.own _) T.kit_Full_NoPlace ?_
      refine ja_cons ?_
      refine je_cB call_isX T.m_isinstance PyProof.Rows.boot_isinstance ?_
      refine ja_cons ?_
      refine je_name 0 rfl rfl ?_
      refine ja_cons ?_
      refine je_glob T.g_NoVisit ?_
      refine ja_nil ?_
      refine d_isX T.xc_Full (.own _) T.kit_Full_NoVisit ?_
      refine ja_cons ?_
      refine je_cB call_isX T.m_isinstance PyProof.Rows.boot_isinstance ?_
      refine ja_cons ?_
      refine je_name 0 rfl rfl ?_
      refine ja_cons ?_
      refine je_glob T.g_Late ?_
      refine ja_nil ?_
      refine d_isX T.xc_Full (.own _) T.kit_Full_Late ?_
      refine ja_cons ?_
      refine je_cB call_isX T.m_isinstance PyProof.Rows.boot_isinstance ?_
      refine ja_cons ?_
      refine je_name 0 rfl rfl ?_
      refine ja_cons ?_
      refine je_glob T.g_Full ?_
      refine ja_nil ?_
      refine d_isX T.xc_Full (.own _) T.kit_Full_Full ?_
      refine ja_nil ?_
      refine ⟨by walk_at "lens", ?_⟩
      refine d_addL (.lst _) (.lst _) (by rw [sizeLine_eq]; simp) ?_
      refine jb_cons (js_ret ?_)
      refine je_add ?_
      refine je_name 1 rfl rfl ?_
      refine (je_lst ?_ : _)
      refine ja_cons ?_
      refine je_cB call_isX T.m_isinstance PyProof.Rows.boot_isinstance ?_
      refine ja_cons ?_
      refine je_name 0 rfl rfl ?_
      refine ja_cons ?_
      refine je_glob T.g_BadRow ?_
      refine ja_nil ?_
      refine d_isX T.xc_Full (.own _) T.kit_Full_BadRow ?_
      refine ja_cons ?_
      refine je_cB call_isX T.m_isinstance PyProof.Rows.boot_isinstance ?_
      refine ja_cons ?_
      refine je_name 0 rfl rfl ?_
      refine ja_cons ?_
      refine je_glob T.g_Never ?_
      refine ja_nil ?_
      refine d_isX T.xc_Full (.own _) T.kit_Full_Never ?_
      refine ja_cons ?_
      refine je_cB call_isX T.m_isinstance PyProof.Rows.boot_isinstance ?_
      refine ja_cons ?_
      refine je_name 0 rfl rfl ?_
      refine ja_cons ?_
      refine je_glob T.g_Broken ?_
      refine ja_nil ?_
      refine d_isX T.xc_Full (.own _) T.kit_Full_Broken ?_
      refine ja_nil ?_
      refine ⟨by walk_at "lens", ?_⟩
      refine d_addL (.lst _) (.lst _) (by rw [sizeLine_eq]; simp) ?_
      exact hk
    ·
      cases hC
      refine jb_cons (js_if ?_)
      refine jt_w ?_
      apply jw_orP
      ·
        refine jt_not ?_
        refine jt_val ?_
        refine je_cB call_isX T.m_isinstance PyProof.Rows.boot_isinstance ?_
        refine ja_cons ?_
        refine je_name 0 rfl rfl ?_
        refine ja_cons ?_
        refine je_glob T.g_GateError ?_
        refine ja_nil ?_
        refine d_isX T.xc_BadRow (.own _) T.kit_BadRow_GateError ?_
        refine ⟨_, rfl, ?_⟩
        exact ⟨rfl, rfl⟩
      ·
        intro h1
        refine jw_or1 ?_
        refine jt_not ?_
        refine jt_val ?_
        refine je_cB call_isX T.m_isinstance PyProof.Rows.boot_isinstance ?_
        refine ja_cons ?_
        refine je_name 0 rfl rfl ?_
        refine ja_cons ?_
        refine je_bty T.m_ValueError PyProof.Rows.Boot.«ValueError» ?_
        refine ja_nil ?_
        refine d_isX T.xc_BadRow (.ty _) T.kit_BadRow_ValueError ?_
        refine ⟨_, rfl, ?_⟩
        exact ⟨rfl, rfl⟩
      refine ⟨fun h2 => absurd h2 (by decide), fun h2 => ?_⟩
      refine jb_nil ?_
      refine jb_cons (js_set 1 c rfl ?_)
      refine (je_lst ?_ : _)
      refine ja_cons ?_
      refine je_cB call_isX T.m_isinstance PyProof.Rows.boot_isinstance ?_
      refine ja_cons ?_
      refine je_name 0 rfl rfl ?_
      refine ja_cons ?_
      refine je_glob T.g_NoBound ?_
      refine ja_nil ?_
      refine d_isX T.xc_BadRow (.own _) T.kit_BadRow_NoBound ?_
      refine ja_cons ?_
      refine je_cB call_isX T.m_isinstance PyProof.Rows.boot_isinstance ?_
      refine ja_cons ?_
      refine je_name 0 rfl rfl ?_
      refine ja_cons ?_
      refine je_glob T.g_NoMoment ?_
      refine ja_nil ?_
      refine d_isX T.xc_BadRow (.own _) T.kit_BadRow_NoMoment ?_
      refine ja_cons ?_
      refine je_cB call_isX T.m_isinstance PyProof.Rows.boot_isinstance ?_
      refine ja_cons ?_
      refine je_name 0 rfl rfl ?_
      refine ja_cons ?_
      refine je_glob T.g_NoCost ?_
      refine ja_nil ?_
      refine d_isX T.xc_BadRow (.own _) T.kit_BadRow_NoCost ?_
      refine ja_cons ?_
      refine je_cB call_isX T.m_isinstance PyProof.Rows.boot_isinstance ?_
      refine ja_cons ?_
      refine je_name 0 rfl rfl ?_
      refine ja_cons ?_
      refine je_glob T.g_NoName ?_
      refine ja_nil ?_
      refine d_isX T.xc_BadRow (.own _) T.kit_BadRow_NoName ?_
      refine ja_nil ?_
      refine ⟨by walk_at "lens", ?_⟩
      refine jb_cons (js_set 1 c rfl ?_)
      refine je_add ?_
      refine je_name 1 rfl rfl ?_
      refine (je_lst ?_ : _)
      refine ja_cons ?_
      refine je_cB call_isX T.m_isinstance PyProof.Rows.boot_isinstance ?_
      refine ja_cons ?_
      refine je_name 0 rfl rfl ?_
      refine ja_cons ?_
      refine je_glob T.g_NoPlace ?_
      refine ja_nil ?_
      refine d_isX T.xc_BadRow (.own _) T.kit_BadRow_NoPlace ?_
      refine ja_cons ?_
      refine je_cB call_isX T.m_isinstance PyProof.Rows.boot_isinstance ?_
      refine ja_cons ?_
      refine je_name 0 rfl rfl ?_
      refine ja_cons ?_
      refine je_glob T.g_NoVisit ?_
      refine ja_nil ?_
      refine d_isX T.xc_BadRow (.own _) T.kit_BadRow_NoVisit ?_
      refine ja_cons ?_
      refine je_cB call_isX T.m_isinstance PyProof.Rows.boot_isinstance ?_
      refine ja_cons ?_
      refine je_name 0 rfl rfl ?_
      refine ja_cons ?_
      refine je_glob T.g_Late ?_
      refine ja_nil ?_
      refine d_isX T.xc_BadRow (.own _) T.kit_BadRow_Late ?_
      refine ja_cons ?_
      refine je_cB call_isX T.m_isinstance PyProof.Rows.boot_isinstance ?_
      refine ja_cons ?_
      refine je_name 0 rfl rfl ?_
      refine ja_cons ?_
      refine je_glob T.g_Full ?_
      refine ja_nil ?_
      refine d_isX T.xc_BadRow (.own _) T.kit_BadRow_Full ?_
      refine ja_nil ?_
      refine ⟨by walk_at "lens", ?_⟩
      refine d_addL (.lst _) (.lst _) (by rw [sizeLine_eq]; simp) ?_
      refine jb_cons (js_ret ?_)
      refine je_add ?_
      refine je_name 1 rfl rfl ?_
      refine (je_lst ?_ : _)
      refine ja_cons ?_
      refine je_cB call_isX T.m_isinstance PyProof.Rows.boot_isinstance ?_
      refine ja_cons ?_
      refine je_name 0 rfl rfl ?_
      refine ja_cons ?_
      refine je_glob T.g_BadRow ?_
      refine ja_nil ?_
      refine d_isX T.xc_BadRow (.own _) T.kit_BadRow_BadRow ?_
      refine ja_cons ?_
      refine je_cB call_isX T.m_isinstance PyProof.Rows.boot_isinstance ?_
      refine ja_cons ?_
      refine je_name 0 rfl rfl ?_
      refine ja_cons ?_
      refine je_glob T.g_Never ?_
      refine ja_nil ?_
      refine d_isX T.xc_BadRow (.own _) T.kit_BadRow_Never ?_
      refine ja_cons ?_
      refine je_cB call_isX T.m_isinstance PyProof.Rows.boot_isinstance ?_
      refine ja_cons ?_
      refine je_name 0 rfl rfl ?_
      refine ja_cons ?_
      refine je_glob T.g_Broken ?_
      refine ja_nil ?_
      refine d_isX T.xc_BadRow (.own _) T.kit_BadRow_Broken ?_
      refine ja_nil ?_
      refine ⟨by walk_at "lens", ?_⟩
      refine d_addL (.lst _) (.lst _) (by rw [sizeLine_eq]; simp) ?_
      exact hk
    ·
      cases hC
      refine jb_cons (js_if ?_)
      refine jt_w ?_
      apply jw_orP
      ·
        refine jt_not ?_
        refine jt_val ?_
        refine je_cB call_isX T.m_isinstance PyProof.Rows.boot_isinstance ?_
        refine ja_cons ?_
        refine je_name 0 rfl rfl ?_
        refine ja_cons ?_
        refine je_glob T.g_GateError ?_
        refine ja_nil ?_
        refine d_isX T.xc_Never (.own _) T.kit_Never_GateError ?_
        refine ⟨_, rfl, ?_⟩
        exact ⟨rfl, rfl⟩
      ·
        intro h1
        refine jw_or1 ?_
        refine jt_not ?_
        refine jt_val ?_
        refine je_cB call_isX T.m_isinstance PyProof.Rows.boot_isinstance ?_
        refine ja_cons ?_
        refine je_name 0 rfl rfl ?_
        refine ja_cons ?_
        refine je_bty T.m_ValueError PyProof.Rows.Boot.«ValueError» ?_
        refine ja_nil ?_
        refine d_isX T.xc_Never (.ty _) T.kit_Never_ValueError ?_
        refine ⟨_, rfl, ?_⟩
        exact ⟨rfl, rfl⟩
      refine ⟨fun h2 => absurd h2 (by decide), fun h2 => ?_⟩
      refine jb_nil ?_
      refine jb_cons (js_set 1 c rfl ?_)
      refine (je_lst ?_ : _)
      refine ja_cons ?_
      refine je_cB call_isX T.m_isinstance PyProof.Rows.boot_isinstance ?_
      refine ja_cons ?_
      refine je_name 0 rfl rfl ?_
      refine ja_cons ?_
      refine je_glob T.g_NoBound ?_
      refine ja_nil ?_
      refine d_isX T.xc_Never (.own _) T.kit_Never_NoBound ?_
      refine ja_cons ?_
      refine je_cB call_isX T.m_isinstance PyProof.Rows.boot_isinstance ?_
      refine ja_cons ?_
      refine je_name 0 rfl rfl ?_
      refine ja_cons ?_
      refine je_glob T.g_NoMoment ?_
      refine ja_nil ?_
      refine d_isX T.xc_Never (.own _) T.kit_Never_NoMoment ?_
      refine ja_cons ?_
      refine je_cB call_isX T.m_isinstance PyProof.Rows.boot_isinstance ?_
      refine ja_cons ?_
      refine je_name 0 rfl rfl ?_
      refine ja_cons ?_
      refine je_glob T.g_NoCost ?_
      refine ja_nil ?_
      refine d_isX T.xc_Never (.own _) T.kit_Never_NoCost ?_
      refine ja_cons ?_
      refine je_cB call_isX T.m_isinstance PyProof.Rows.boot_isinstance ?_
      refine ja_cons ?_
      refine je_name 0 rfl rfl ?_
      refine ja_cons ?_
      refine je_glob T.g_NoName ?_
      refine ja_nil ?_
      refine d_isX T.xc_Never (.own _) T.kit_Never_NoName ?_
      refine ja_nil ?_
      refine ⟨by walk_at "lens", ?_⟩
      refine jb_cons (js_set 1 c rfl ?_)
      refine je_add ?_
      refine je_name 1 rfl rfl ?_
      refine (je_lst ?_ : _)
      refine ja_cons ?_
      refine je_cB call_isX T.m_isinstance PyProof.Rows.boot_isinstance ?_
      refine ja_cons ?_
      refine je_name 0 rfl rfl ?_
      refine ja_cons ?_
      refine je_glob T.g_NoPlace ?_
      refine ja_nil ?_
      refine d_isX T.xc_Never (.own _) T.kit_Never_NoPlace ?_
      refine ja_cons ?_
      refine je_cB call_isX T.m_isinstance PyProof.Rows.boot_isinstance ?_
      refine ja_cons ?_
      refine je_name 0 rfl rfl ?_
      refine ja_cons ?_
      refine je_glob T.g_NoVisit ?_
      refine ja_nil ?_
      refine d_isX T.xc_Never (.own _) T.kit_Never_NoVisit ?_
      refine ja_cons ?_
      refine je_cB call_isX T.m_isinstance PyProof.Rows.boot_isinstance ?_
      refine ja_cons ?_
      refine je_name 0 rfl rfl ?_
      refine ja_cons ?_
      refine je_glob T.g_Late ?_
      refine ja_nil ?_
      refine d_isX T.xc_Never (.own _) T.kit_Never_Late ?_
      refine ja_cons ?_
      refine je_cB call_isX T.m_isinstance PyProof.Rows.boot_isinstance ?_
      refine ja_cons ?_
      refine je_name 0 rfl rfl ?_
      refine ja_cons ?_
      refine je_glob T.g_Full ?_
      refine ja_nil ?_
      refine d_isX T.xc_Never (.own _) T.kit_Never_Full ?_
      refine ja_nil ?_
      refine ⟨by walk_at "lens", ?_⟩
      refine d_addL (.lst _) (.lst _) (by rw [sizeLine_eq]; simp) ?_
      refine jb_cons (js_ret ?_)
      refine je_add ?_
      refine je_name 1 rfl rfl ?_
      refine (je_lst ?_ : _)
      refine ja_cons ?_
      refine je_cB call_isX T.m_isinstance PyProof.Rows.boot_isinstance ?_
      refine ja_cons ?_
      refine je_name 0 rfl rfl ?_
      refine ja_cons ?_
      refine je_glob T.g_BadRow ?_
      refine ja_nil ?_
      refine d_isX T.xc_Never (.own _) T.kit_Never_BadRow ?_
      refine ja_cons ?_
      refine je_cB call_isX T.m_isinstance PyProof.Rows.boot_isinstance ?_
      refine ja_cons ?_
      refine je_name 0 rfl rfl ?_
      refine ja_cons ?_
      refine je_glob T.g_Never ?_
      refine ja_nil ?_
      refine d_isX T.xc_Never (.own _) T.kit_Never_Never ?_
      refine ja_cons ?_
      refine je_cB call_isX T.m_isinstance PyProof.Rows.boot_isinstance ?_
      refine ja_cons ?_
      refine je_name 0 rfl rfl ?_
      refine ja_cons ?_
      refine je_glob T.g_Broken ?_
      refine ja_nil ?_
      refine d_isX T.xc_Never (.own _) T.kit_Never_Broken ?_
      refine ja_nil ?_
      refine ⟨by walk_at "lens", ?_⟩
      refine d_addL (.lst _) (.lst _) (by rw [sizeLine_eq]; simp) ?_
      exact hk
    ·
      cases hC
      refine jb_cons (js_if ?_)
      refine jt_w ?_
      apply jw_orP
      ·
        refine jt_not ?_
        refine jt_val ?_
        refine je_cB call_isX T.m_isinstance PyProof.Rows.boot_isinstance ?_
        refine ja_cons ?_
        refine je_name 0 rfl rfl ?_
        refine ja_cons ?_
        refine je_glob T.g_GateError ?_
        refine ja_nil ?_
        refine d_isX T.xc_Broken (.own _) T.kit_Broken_GateError ?_
        refine ⟨_, rfl, ?_⟩
        exact ⟨rfl, rfl⟩
      ·
        intro h1
        refine jw_or1 ?_
        refine jt_not ?_
        refine jt_val ?_
        refine je_cB call_isX T.m_isinstance PyProof.Rows.boot_isinstance ?_
        refine ja_cons ?_
        refine je_name 0 rfl rfl ?_
        refine ja_cons ?_
        refine je_bty T.m_ValueError PyProof.Rows.Boot.«ValueError» ?_
        refine ja_nil ?_
        refine d_isX T.xc_Broken (.ty _) T.kit_Broken_ValueError ?_
        refine ⟨_, rfl, ?_⟩
        exact ⟨rfl, rfl⟩
      refine ⟨fun h2 => absurd h2 (by decide), fun h2 => ?_⟩
      refine jb_nil ?_
      refine jb_cons (js_set 1 c rfl ?_)
      refine (je_lst ?_ : _)
      refine ja_cons ?_
      refine je_cB call_isX T.m_isinstance PyProof.Rows.boot_isinstance ?_
      refine ja_cons ?_
      refine je_name 0 rfl rfl ?_
      refine ja_cons ?_
      refine je_glob T.g_NoBound ?_
      refine ja_nil ?_
      refine d_isX T.xc_Broken (.own _) T.kit_Broken_NoBound ?_
      refine ja_cons ?_
      refine je_cB call_isX T.m_isinstance PyProof.Rows.boot_isinstance ?_
      refine ja_cons ?_
      refine je_name 0 rfl rfl ?_
      refine ja_cons ?_
      refine je_glob T.g_NoMoment ?_
      refine ja_nil ?_
      refine d_isX T.xc_Broken (.own _) T.kit_Broken_NoMoment ?_
      refine ja_cons ?_
      refine je_cB call_isX T.m_isinstance PyProof.Rows.boot_isinstance ?_
      refine ja_cons ?_
      refine je_name 0 rfl rfl ?_
      refine ja_cons ?_
      refine je_glob T.g_NoCost ?_
      refine ja_nil ?_
      refine d_isX T.xc_Broken (.own _) T.kit_Broken_NoCost ?_
      refine ja_cons ?_
      refine je_cB call_isX T.m_isinstance PyProof.Rows.boot_isinstance ?_
      refine ja_cons ?_
      refine je_name 0 rfl rfl ?_
      refine ja_cons ?_
      refine je_glob T.g_NoName ?_
      refine ja_nil ?_
      refine d_isX T.xc_Broken (.own _) T.kit_Broken_NoName ?_
      refine ja_nil ?_
      refine ⟨by walk_at "lens", ?_⟩
      refine jb_cons (js_set 1 c rfl ?_)
      refine je_add ?_
      refine je_name 1 rfl rfl ?_
      refine (je_lst ?_ : _)
      refine ja_cons ?_
      refine je_cB call_isX T.m_isinstance PyProof.Rows.boot_isinstance ?_
      refine ja_cons ?_
      refine je_name 0 rfl rfl ?_
      refine ja_cons ?_
      refine je_glob T.g_NoPlace ?_
      refine ja_nil ?_
      refine d_isX T.xc_Broken (.own _) T.kit_Broken_NoPlace ?_
      refine ja_cons ?_
      refine je_cB call_isX T.m_isinstance PyProof.Rows.boot_isinstance ?_
      refine ja_cons ?_
      refine je_name 0 rfl rfl ?_
      refine ja_cons ?_
      refine je_glob T.g_NoVisit ?_
      refine ja_nil ?_
      refine d_isX T.xc_Broken (.own _) T.kit_Broken_NoVisit ?_
      refine ja_cons ?_
      refine je_cB call_isX T.m_isinstance PyProof.Rows.boot_isinstance ?_
      refine ja_cons ?_
      refine je_name 0 rfl rfl ?_
      refine ja_cons ?_
      refine je_glob T.g_Late ?_
      refine ja_nil ?_
      refine d_isX T.xc_Broken (.own _) T.kit_Broken_Late ?_
      refine ja_cons ?_
      refine je_cB call_isX T.m_isinstance PyProof.Rows.boot_isinstance ?_
      refine ja_cons ?_
      refine je_name 0 rfl rfl ?_
      refine ja_cons ?_
      refine je_glob T.g_Full ?_
      refine ja_nil ?_
      refine d_isX T.xc_Broken (.own _) T.kit_Broken_Full ?_
      refine ja_nil ?_
      refine ⟨by walk_at "lens", ?_⟩
      refine d_addL (.lst _) (.lst _) (by rw [sizeLine_eq]; simp) ?_
      refine jb_cons (js_ret ?_)
      refine je_add ?_
      refine je_name 1 rfl rfl ?_
      refine (je_lst ?_ : _)
      refine ja_cons ?_
      refine je_cB call_isX T.m_isinstance PyProof.Rows.boot_isinstance ?_
      refine ja_cons ?_
      refine je_name 0 rfl rfl ?_
      refine ja_cons ?_
      refine je_glob T.g_BadRow ?_
      refine ja_nil ?_
      refine d_isX T.xc_Broken (.own _) T.kit_Broken_BadRow ?_
      refine ja_cons ?_
      refine je_cB call_isX T.m_isinstance PyProof.Rows.boot_isinstance ?_
      refine ja_cons ?_
      refine je_name 0 rfl rfl ?_
      refine ja_cons ?_
      refine je_glob T.g_Never ?_
      refine ja_nil ?_
      refine d_isX T.xc_Broken (.own _) T.kit_Broken_Never ?_
      refine ja_cons ?_
      refine je_cB call_isX T.m_isinstance PyProof.Rows.boot_isinstance ?_
      refine ja_cons ?_
      refine je_name 0 rfl rfl ?_
      refine ja_cons ?_
      refine je_glob T.g_Broken ?_
      refine ja_nil ?_
      refine d_isX T.xc_Broken (.own _) T.kit_Broken_Broken ?_
      refine ja_nil ?_
      refine ⟨by walk_at "lens", ?_⟩
      refine d_addL (.lst _) (.lst _) (by rw [sizeLine_eq]; simp) ?_
      exact hk
theorem sc_law : FnScope ["_law_script", "_law_text", "_law_place", "_law_stretch", "_law_made", "_law_k", "_law_j"] ["_law_script"] (defScope s_law) := ⟨rfl, rfl, rfl, by decide +kernel, rfl, by decide +kernel, by decide +kernel⟩
theorem ok_law {f : Addr} {fd : FuncData} (F : Fun K "law" "law" s_law f fd) (T : Txt K mg A) (F__law_cell : DCal Pg w K mg base 1 "_law_cell" (S__law_cell A) []) (F_Never : DExI Pg w K mg base 1 "Never" A.CNE (sp1 "place" A.CNE)) (F_Broken : DExI Pg w K mg base 1 "Broken" A.CBK (sp2 "k" "stretch" A.CBK)) (F__law_kinds : DCal Pg w K mg base 1 "_law_kinds" (S__law_kinds A) []) : FnOk Pg w K mg base (L2.CX Pg w) 3 f fd ["_law_script"] (toSp K (S_law A)) := by
  refine fn_data F sc_law (fun ds μ kd ke h => ?_) (fun cdv A_ outer s H E c ow ds μ kd ke h => ?_)
  · obtain ⟨ns, rfl, hns, rfl, hk⟩ := h; rfl
  · obtain ⟨ns, rfl, hns, rfl, hk⟩ := h
    refine jb_cons (js_set 1 c rfl ?_)
    refine je_ix ?_
    refine (je_lst ?_ : _)
    refine ja_cons ?_
    refine je_str ?_
    refine ja_cons ?_
    refine je_str ?_
    refine ja_cons ?_
    refine je_str ?_
    refine ja_cons ?_
    refine je_str ?_
    refine ja_nil ?_
    refine ⟨by walk_at "lens", ?_⟩
    refine je_mod ?_
    refine je_call c F__law_cell (by decide) ?_
    refine ja_cons ?_
    refine je_name 0 rfl rfl ?_
    refine ja_cons ?_
    refine je_int ?_
    refine ja_nil ?_
    refine ⟨ns, _, rfl, hns, ?_⟩
    refine je_int ?_
    refine d_modI (by first | decide | omega) ?_
    refine d_ixAny (by omega) (by simp; omega) fun d1 hd1 => ?_
    refine jb_cons (js_set 2 c rfl ?_)
    refine je_mod ?_
    refine je_call c F__law_cell (by decide) ?_
    refine ja_cons ?_
    refine je_name 0 rfl rfl ?_
    refine ja_cons ?_
    refine je_int ?_
    refine ja_nil ?_
    refine ⟨ns, _, rfl, hns, ?_⟩
    refine je_int ?_
    refine d_modI (by first | decide | omega) ?_
    refine jb_cons (js_set 3 c rfl ?_)
    refine je_tup ?_
    refine ja_cons ?_
    refine je_mod ?_
    refine je_call c F__law_cell (by decide) ?_
    refine ja_cons ?_
    refine je_name 0 rfl rfl ?_
    refine ja_cons ?_
    refine je_int ?_
    refine ja_nil ?_
    refine ⟨ns, _, rfl, hns, ?_⟩
    refine je_pow ?_
    refine je_int ?_
    refine je_int ?_
    refine d_powE (v := 1000000000) ⟨by decide, by decide, by decide⟩ rfl ?_
    refine d_modI (by first | decide | omega) ?_
    refine ja_cons ?_
    refine je_add ?_
    refine je_pow ?_
    refine je_int ?_
    refine je_int ?_
    refine d_powE (v := 1000000000) ⟨by decide, by decide, by decide⟩ rfl ?_
    refine je_call c F__law_cell (by decide) ?_
    refine ja_cons ?_
    refine je_name 0 rfl rfl ?_
    refine ja_cons ?_
    refine je_int ?_
    refine ja_nil ?_
    refine ⟨ns, _, rfl, hns, ?_⟩
    first | refine d_addI ?_ | refine d_addL (by constructor) (by constructor) (by walk_at "lens") ?_ | refine d_addS (by walk_at "lens") ?_ | refine d_addT (by walk_at "lens") ?_
    refine ja_nil ?_
    refine ⟨by walk_at "lens", ?_⟩
    generalize m_law_cell ns 1 % 200 = pl at *
    generalize m_law_cell ns 2 % 1000000000 = s1 at *
    generalize 1000000000 + m_law_cell ns 3 = s2 at *
    refine jb_cons (js_set 4 c rfl ?_)
    refine (je_lst ?_ : _)
    refine ja_cons ?_
    refine je_exc1 c T.x_NoBound ?_
    refine je_name 1 rfl rfl ?_
    refine ja_cons ?_
    refine je_exc1 c T.x_NoMoment ?_
    refine je_name 1 rfl rfl ?_
    refine ja_cons ?_
    refine je_exc1 c T.x_NoCost ?_
    refine je_name 1 rfl rfl ?_
    refine ja_cons ?_
    refine je_exc1 c T.x_NoName ?_
    refine je_name 1 rfl rfl ?_
    refine ja_cons ?_
    refine je_exc1 c T.x_NoPlace ?_
    refine je_name 1 rfl rfl ?_
    refine ja_cons ?_
    refine je_exc1 c T.x_NoVisit ?_
    refine je_name 1 rfl rfl ?_
    refine ja_cons ?_
    refine je_exc1 c T.x_Late ?_
    refine je_name 1 rfl rfl ?_
    refine ja_nil ?_
    refine ⟨by walk_at "lens", ?_⟩
    refine jb_cons (js_set 4 c rfl ?_)
    refine je_add ?_
    refine je_name 4 rfl rfl ?_
    refine (je_lst ?_ : _)
    refine ja_cons ?_
    refine je_exc1 c T.x_Full ?_
    refine je_name 1 rfl rfl ?_
    refine ja_cons ?_
    refine je_exc1 c T.x_BadRow ?_
    refine je_name 1 rfl rfl ?_
    refine ja_cons ?_
    refine je_excI1 c F_Never (by decide) ?_
    refine je_name 2 rfl rfl ?_
    refine ja_cons ?_
    refine je_excI2 c F_Broken (by decide) ?_
    refine je_mod ?_
    refine je_name 2 rfl rfl ?_
    refine je_int ?_
    refine d_modI (by first | decide | omega) ?_
    refine je_name 3 rfl rfl ?_
    refine ja_nil ?_
    refine ⟨by walk_at "lens", ?_⟩
    refine d_addL (.lst _) (.lst _) (by rw [sizeLine_eq]; simp) ?_
    refine jb_cons (js_forT 5 c.calm ow (pg_name (i := 5) c.nd rfl (by first | exact Or.inl rfl | exact Or.inr rfl)) ?_)
    refine ji_range1 T.m_range ?_
    refine ja_cons ?_
    refine je_int ?_
    refine ja_nil ?_
    refine ⟨_, rfl, by omega, by omega, ?_⟩
    refine ⟨fun j e μ' => e = [some (.fro (ns.map Dv.int)), some d1, some (.int pl), some (.tup [.int s1, .int s2]), some (.lst (mkD A pl s1 s2)), none, none] ∧ μ' = (fun _ => none), ?_, fun _ _ _ _ => trivial, fun j x e μ' hx iv => ?_, fun e μ' iv n' hle => ?_⟩
    · exact ⟨_, LeE.refl _, rfl, rfl⟩
    ·
      obtain ⟨rfl, rfl⟩ := iv
      obtain ⟨rfl, hj⟩ := rng_item1 hx
      replace hj : j < 11 := by simpa using hj
      obtain ⟨C, fs, hat, hC⟩ := mkD_at (A := A) (p := pl) (a := s1) (b := s2) hj
      refine jb_cons (js_if ?_)
      refine jt_ne c ?_
      refine je_call c F__law_kinds (by decide) ?_
      refine ja_cons ?_
      refine je_ix ?_
      refine je_name 4 rfl rfl ?_
      refine je_name 5 rfl rfl ?_
      refine d_ixL (.lst _) (atI_nat hat) ?_
      refine ja_nil ?_
      refine ⟨C, fs, j, rfl, hj, hC, ?_⟩
      refine je_lcG (x := "_law_j") 6 c.calm c.nd (blkOk_by (N := ["_law_script", "_law_text", "_law_place", "_law_stretch", "_law_made", "_law_k", "_law_j"]) (sc := defScope s_law) (by decide +kernel)) (fun _ _ _ _ _ => pg_name (i := 6) c.nd rfl (Or.inl rfl)) ?_
      refine ji_range1 T.m_range ?_
      refine ja_cons ?_
      refine je_int ?_
      refine ja_nil ?_
      refine ⟨_, rfl, by omega, by omega, ?_⟩
      refine lc_map (fun i : Nat => Dv.int (0 + (i : Int))) (List.range 11) (fun i : Nat => some (Dv.bl (decide ((i : Int) = (j : Int))))) rfl trivial (by rw [sizeLine_eq, List.length_range]; omega) (fun j x μ' hx hμ => ?_) ?_
      ·
        intro s1 H1 C1 cl1 fp1
        refine ⟨fun _ s2 H2 C2 cl2 fp2 => ?_, fun z => nomatch z⟩
        skip
        refine je_eq c.blk ?_
        refine je_name 6 rfl rfl ?_
        refine je_name 5 rfl rfl ?_
        first | refine d_eqI ?_ | refine d_eqS ?_ | refine d_eqB ?_ | refine d_eqNI ?_
        exact ⟨by rw [Int.zero_add], rfl⟩
      rw [fm_bl]
      refine d_neE (Enc.list Enc.bl) (by decide) (x := (List.range 11).map fun i => decide (i = j)) (y := (List.range 11).map fun i => decide (i = j)) rfl rfl ?_
      refine ⟨_, rfl, ?_⟩
      refine ⟨fun h1 => absurd h1 (by simp), fun h1 => ?_⟩
      refine jb_nil ?_
      refine jb_nil ?_
      refine ⟨_, ?_, rfl, rfl⟩
      walk_at "le"
    obtain ⟨rfl, rfl⟩ := iv
    refine JB.le ?_ hle
    refine jb_cons (js_ret ?_)
    apply je_andP
    ·
      refine je_eq c ?_
      refine je_xfld ?_
      refine je_ix ?_
      refine je_name 4 rfl rfl ?_
      refine je_int ?_
      refine d_ixL (.lst _) rfl ?_
      refine ⟨_, _, _, rfl, T.xc_Never, T.na_Never_place, lookup_hit, ?_⟩
      refine je_name 2 rfl rfl ?_
      first | refine d_eqI ?_ | refine d_eqS ?_ | refine d_eqB ?_ | refine d_eqNI ?_
      exact ⟨rfl, rfl⟩
    ·
      intro h2
      refine je_one ?_
      refine je_eq c ?_
      refine je_tup ?_
      refine ja_cons ?_
      refine je_xfld ?_
      refine je_ix ?_
      refine je_name 4 rfl rfl ?_
      refine je_int ?_
      refine d_ixL (.lst _) rfl ?_
      refine ⟨_, _, _, rfl, T.xc_Broken, T.na_Broken_k, (lookup_miss (by decide)).trans lookup_hit, ?_⟩
      refine ja_cons ?_
      refine je_xfld ?_
      refine je_ix ?_
      refine je_name 4 rfl rfl ?_
      refine je_int ?_
      refine d_ixL (.lst _) rfl ?_
      refine ⟨_, _, _, rfl, T.xc_Broken, T.na_Broken_stretch, lookup_hit, ?_⟩
      refine ja_nil ?_
      refine ⟨by walk_at "lens", ?_⟩
      refine je_tup ?_
      refine ja_cons ?_
      refine je_mod ?_
      refine je_name 2 rfl rfl ?_
      refine je_int ?_
      refine d_modI (by first | decide | omega) ?_
      refine ja_cons ?_
      refine je_name 3 rfl rfl ?_
      refine ja_nil ?_
      refine ⟨by walk_at "lens", ?_⟩
      refine d_eqE (Enc.pair Enc.int encV) (by decide) (x := (pl % 4, s1, s2)) (y := (pl % 4, s1, s2)) rfl rfl ?_
      exact ⟨rfl, rfl⟩
    simpa using hk _
end
theorem all_mk {l : PySem.W.OpenLaw} {w : World} {K : Kf} {h : Heap} {mg : Str → Option Value} {fa aCGE aCNB aCNM aCNC aCNN aCNP aCNV aCLT aCFU aCBR aCNE aCBK f0 f1 f2 f3 f4 : Addr} (X : K.In h) (G : h.Ns mainGlobals mg) (hfa : mg "law" = some (.ref fa))
    {od0 an0 od1 an1 od2 an2 od3 an3 od4 an4 : Option Addr} {sl0 sl1 sl2 sl3 sl4 : Array (Option Value)} {oc0 kV0 dc0 pm0 cd0 ct0 oc1 kV1 dc1 pm1 cd1 ct1 oc2 kV2 dc2 pm2 cd2 ct2 oc3 kV3 dc3 pm3 cd3 ct3 oc4 kV4 dc4 pm4 cd4 ct4 : Value}
    {nm_Never qn_Never : Str} {N_Never : Addr} {bs_Never : List Value} {sn_Never : List Str} {su_Never : List Value} {ab_Never : Bool} {co_Never : Option Bool} {dd_Never : Option Addr} {u0_Never u1_Never u2_Never u3_Never u5_Never : Option Value}
    {nm_Broken qn_Broken : Str} {N_Broken : Addr} {bs_Broken : List Value} {sn_Broken : List Str} {su_Broken : List Value} {ab_Broken : Bool} {co_Broken : Option Bool} {dd_Broken : Option Addr} {u0_Broken u1_Broken u2_Broken u3_Broken u5_Broken : Option Value}
    (n_GateError : PySem.W.nsIn K mainGlobals "GateError" = some (some (.ref aCGE)))
    (n_NoBound : PySem.W.nsIn K mainGlobals "NoBound" = some (some (.ref aCNB)))
    (n_NoMoment : PySem.W.nsIn K mainGlobals "NoMoment" = some (some (.ref aCNM)))
    (n_NoCost : PySem.W.nsIn K mainGlobals "NoCost" = some (some (.ref aCNC)))
    (n_NoName : PySem.W.nsIn K mainGlobals "NoName" = some (some (.ref aCNN)))
    (n_NoPlace : PySem.W.nsIn K mainGlobals "NoPlace" = some (some (.ref aCNP)))
    (n_NoVisit : PySem.W.nsIn K mainGlobals "NoVisit" = some (some (.ref aCNV)))
    (n_Late : PySem.W.nsIn K mainGlobals "Late" = some (some (.ref aCLT)))
    (n_Full : PySem.W.nsIn K mainGlobals "Full" = some (some (.ref aCFU)))
    (n_BadRow : PySem.W.nsIn K mainGlobals "BadRow" = some (some (.ref aCBR)))
    (n_Never : PySem.W.nsIn K mainGlobals "Never" = some (some (.ref aCNE)))
    (n_Broken : PySem.W.nsIn K mainGlobals "Broken" = some (some (.ref aCBK)))
    (a0_Never : PySem.W.findIn K (.ref aCNE) "__init__" = some (some (.ref f0)))
    (tf_Never : PySem.W.typeIn K (.ref f0) = some (.type "function"))
    (i0 : PySem.W.isFn K (.ref f0) = true)
    (l0 : K.lookup f0 = some ⟨oc0, od0, .func (PySem.W.fnOf "__init__" "Never.__init__" (defArgs s_Never_init) (defBody s_Never_init) (defScope s_Never_init) .none kV0 dc0 pm0 an0 cd0 ct0), sl0⟩)
    (c0 : PySem.W.codeIn K cd0 "Never.__init__" = true)
    (k0 : PySem.W.keepIn K (.ref f0) = true)
    (a1_Broken : PySem.W.findIn K (.ref aCBK) "__init__" = some (some (.ref f1)))
    (tf_Broken : PySem.W.typeIn K (.ref f1) = some (.type "function"))
    (i1 : PySem.W.isFn K (.ref f1) = true)
    (l1 : K.lookup f1 = some ⟨oc1, od1, .func (PySem.W.fnOf "__init__" "Broken.__init__" (defArgs s_Broken_init) (defBody s_Broken_init) (defScope s_Broken_init) .none kV1 dc1 pm1 an1 cd1 ct1), sl1⟩)
    (c1 : PySem.W.codeIn K cd1 "Broken.__init__" = true)
    (k1 : PySem.W.keepIn K (.ref f1) = true)
    (a2 : PySem.W.nsIn K mainGlobals "_law_cell" = some (some (.ref f2)))
    (l2 : K.lookup f2 = some ⟨oc2, od2, .func (PySem.W.fnOf "_law_cell" "_law_cell" (defArgs s__law_cell) (defBody s__law_cell) (defScope s__law_cell) .none kV2 dc2 pm2 an2 cd2 ct2), sl2⟩)
    (c2 : PySem.W.codeIn K cd2 "_law_cell" = true)
    (k2 : PySem.W.keepIn K (.ref f2) = true)
    (a3 : PySem.W.nsIn K mainGlobals "_law_kinds" = some (some (.ref f3)))
    (l3 : K.lookup f3 = some ⟨oc3, od3, .func (PySem.W.fnOf "_law_kinds" "_law_kinds" (defArgs s__law_kinds) (defBody s__law_kinds) (defScope s__law_kinds) .none kV3 dc3 pm3 an3 cd3 ct3), sl3⟩)
    (c3 : PySem.W.codeIn K cd3 "_law_kinds" = true)
    (k3 : PySem.W.keepIn K (.ref f3) = true)
    (a4 : PySem.W.nsIn K mainGlobals "law" = some (some (.ref f4)))
    (l4 : K.lookup f4 = some ⟨oc4, od4, .func (PySem.W.fnOf "law" "law" (defArgs s_law) (defBody s_law) (defScope s_law) .none kV4 dc4 pm4 an4 cd4 ct4), sl4⟩)
    (c4 : PySem.W.codeIn K cd4 "law" = true)
    (k4 : PySem.W.keepIn K (.ref f4) = true)
    (isn : PySem.W.specialIn K (.builtin "object.__class__") "__get__" = some (some (.builtin "getset_descriptor.__get__")))
    (ist : PySem.W.takesIn K (.builtin "object.__class__") = some true)
    (xq_GateError : PySem.W.excIn K aCGE [.type "ValueError", .type "Exception", .type "BaseException", .type "object"] "ValueError.__new__" = true)
    (xk_GateError : PySem.W.keepIn K (.ref aCGE) = true)
    (xb_GateError : PySem.W.subIn K (.ref aCGE) (.type "BaseException") = some true)
    (xt_GateError : PySem.W.typeIn K (.ref aCGE) = some (.type "type"))
    (eg_GateError : PySem.W.findIn K (.ref aCGE) "__getattribute__" = some (some (.builtin "BaseException.__getattribute__")))
    (ek_GateError : PySem.W.findIn K (.ref aCGE) "__getattr__" = some none)
    (ed_GateError : PySem.W.hasDictIn K aCGE = true)
    (ea_GateError : PySem.W.findIn K (.ref aCGE) "__class__" = some (some (.builtin "object.__class__")))
    (em_GateError : PySem.W.mroIn K aCGE (.type "object") = some true)
    (xq_NoBound : PySem.W.excIn K aCNB [.type "ValueError", .type "Exception", .type "BaseException", .type "object"] "ValueError.__new__" = true)
    (xk_NoBound : PySem.W.keepIn K (.ref aCNB) = true)
    (xb_NoBound : PySem.W.subIn K (.ref aCNB) (.type "BaseException") = some true)
    (xt_NoBound : PySem.W.typeIn K (.ref aCNB) = some (.type "type"))
    (eg_NoBound : PySem.W.findIn K (.ref aCNB) "__getattribute__" = some (some (.builtin "BaseException.__getattribute__")))
    (ek_NoBound : PySem.W.findIn K (.ref aCNB) "__getattr__" = some none)
    (ed_NoBound : PySem.W.hasDictIn K aCNB = true)
    (ea_NoBound : PySem.W.findIn K (.ref aCNB) "__class__" = some (some (.builtin "object.__class__")))
    (em_NoBound : PySem.W.mroIn K aCNB (.type "object") = some true)
    (xq_NoMoment : PySem.W.excIn K aCNM [.type "ValueError", .type "Exception", .type "BaseException", .type "object"] "ValueError.__new__" = true)
    (xk_NoMoment : PySem.W.keepIn K (.ref aCNM) = true)
    (xb_NoMoment : PySem.W.subIn K (.ref aCNM) (.type "BaseException") = some true)
    (xt_NoMoment : PySem.W.typeIn K (.ref aCNM) = some (.type "type"))
    (eg_NoMoment : PySem.W.findIn K (.ref aCNM) "__getattribute__" = some (some (.builtin "BaseException.__getattribute__")))
    (ek_NoMoment : PySem.W.findIn K (.ref aCNM) "__getattr__" = some none)
    (ed_NoMoment : PySem.W.hasDictIn K aCNM = true)
    (ea_NoMoment : PySem.W.findIn K (.ref aCNM) "__class__" = some (some (.builtin "object.__class__")))
    (em_NoMoment : PySem.W.mroIn K aCNM (.type "object") = some true)
    (xq_NoCost : PySem.W.excIn K aCNC [.type "ValueError", .type "Exception", .type "BaseException", .type "object"] "ValueError.__new__" = true)
    (xk_NoCost : PySem.W.keepIn K (.ref aCNC) = true)
    (xb_NoCost : PySem.W.subIn K (.ref aCNC) (.type "BaseException") = some true)
    (xt_NoCost : PySem.W.typeIn K (.ref aCNC) = some (.type "type"))
    (eg_NoCost : PySem.W.findIn K (.ref aCNC) "__getattribute__" = some (some (.builtin "BaseException.__getattribute__")))
    (ek_NoCost : PySem.W.findIn K (.ref aCNC) "__getattr__" = some none)
    (ed_NoCost : PySem.W.hasDictIn K aCNC = true)
    (ea_NoCost : PySem.W.findIn K (.ref aCNC) "__class__" = some (some (.builtin "object.__class__")))
    (em_NoCost : PySem.W.mroIn K aCNC (.type "object") = some true)
    (xq_NoName : PySem.W.excIn K aCNN [.type "ValueError", .type "Exception", .type "BaseException", .type "object"] "ValueError.__new__" = true)
    (xk_NoName : PySem.W.keepIn K (.ref aCNN) = true)
    (xb_NoName : PySem.W.subIn K (.ref aCNN) (.type "BaseException") = some true)
    (xt_NoName : PySem.W.typeIn K (.ref aCNN) = some (.type "type"))
    (eg_NoName : PySem.W.findIn K (.ref aCNN) "__getattribute__" = some (some (.builtin "BaseException.__getattribute__")))
    (ek_NoName : PySem.W.findIn K (.ref aCNN) "__getattr__" = some none)
    (ed_NoName : PySem.W.hasDictIn K aCNN = true)
    (ea_NoName : PySem.W.findIn K (.ref aCNN) "__class__" = some (some (.builtin "object.__class__")))
    (em_NoName : PySem.W.mroIn K aCNN (.type "object") = some true)
    (xq_NoPlace : PySem.W.excIn K aCNP [.type "ValueError", .type "Exception", .type "BaseException", .type "object"] "ValueError.__new__" = true)
    (xk_NoPlace : PySem.W.keepIn K (.ref aCNP) = true)
    (xb_NoPlace : PySem.W.subIn K (.ref aCNP) (.type "BaseException") = some true)
    (xt_NoPlace : PySem.W.typeIn K (.ref aCNP) = some (.type "type"))
    (eg_NoPlace : PySem.W.findIn K (.ref aCNP) "__getattribute__" = some (some (.builtin "BaseException.__getattribute__")))
    (ek_NoPlace : PySem.W.findIn K (.ref aCNP) "__getattr__" = some none)
    (ed_NoPlace : PySem.W.hasDictIn K aCNP = true)
    (ea_NoPlace : PySem.W.findIn K (.ref aCNP) "__class__" = some (some (.builtin "object.__class__")))
    (em_NoPlace : PySem.W.mroIn K aCNP (.type "object") = some true)
    (xq_NoVisit : PySem.W.excIn K aCNV [.type "ValueError", .type "Exception", .type "BaseException", .type "object"] "ValueError.__new__" = true)
    (xk_NoVisit : PySem.W.keepIn K (.ref aCNV) = true)
    (xb_NoVisit : PySem.W.subIn K (.ref aCNV) (.type "BaseException") = some true)
    (xt_NoVisit : PySem.W.typeIn K (.ref aCNV) = some (.type "type"))
    (eg_NoVisit : PySem.W.findIn K (.ref aCNV) "__getattribute__" = some (some (.builtin "BaseException.__getattribute__")))
    (ek_NoVisit : PySem.W.findIn K (.ref aCNV) "__getattr__" = some none)
    (ed_NoVisit : PySem.W.hasDictIn K aCNV = true)
    (ea_NoVisit : PySem.W.findIn K (.ref aCNV) "__class__" = some (some (.builtin "object.__class__")))
    (em_NoVisit : PySem.W.mroIn K aCNV (.type "object") = some true)
    (xq_Late : PySem.W.excIn K aCLT [.type "ValueError", .type "Exception", .type "BaseException", .type "object"] "ValueError.__new__" = true)
    (xk_Late : PySem.W.keepIn K (.ref aCLT) = true)
    (xb_Late : PySem.W.subIn K (.ref aCLT) (.type "BaseException") = some true)
    (xt_Late : PySem.W.typeIn K (.ref aCLT) = some (.type "type"))
    (eg_Late : PySem.W.findIn K (.ref aCLT) "__getattribute__" = some (some (.builtin "BaseException.__getattribute__")))
    (ek_Late : PySem.W.findIn K (.ref aCLT) "__getattr__" = some none)
    (ed_Late : PySem.W.hasDictIn K aCLT = true)
    (ea_Late : PySem.W.findIn K (.ref aCLT) "__class__" = some (some (.builtin "object.__class__")))
    (em_Late : PySem.W.mroIn K aCLT (.type "object") = some true)
    (xq_Full : PySem.W.excIn K aCFU [.type "ValueError", .type "Exception", .type "BaseException", .type "object"] "ValueError.__new__" = true)
    (xk_Full : PySem.W.keepIn K (.ref aCFU) = true)
    (xb_Full : PySem.W.subIn K (.ref aCFU) (.type "BaseException") = some true)
    (xt_Full : PySem.W.typeIn K (.ref aCFU) = some (.type "type"))
    (eg_Full : PySem.W.findIn K (.ref aCFU) "__getattribute__" = some (some (.builtin "BaseException.__getattribute__")))
    (ek_Full : PySem.W.findIn K (.ref aCFU) "__getattr__" = some none)
    (ed_Full : PySem.W.hasDictIn K aCFU = true)
    (ea_Full : PySem.W.findIn K (.ref aCFU) "__class__" = some (some (.builtin "object.__class__")))
    (em_Full : PySem.W.mroIn K aCFU (.type "object") = some true)
    (xq_BadRow : PySem.W.excIn K aCBR [.type "ValueError", .type "Exception", .type "BaseException", .type "object"] "ValueError.__new__" = true)
    (xk_BadRow : PySem.W.keepIn K (.ref aCBR) = true)
    (xb_BadRow : PySem.W.subIn K (.ref aCBR) (.type "BaseException") = some true)
    (xt_BadRow : PySem.W.typeIn K (.ref aCBR) = some (.type "type"))
    (eg_BadRow : PySem.W.findIn K (.ref aCBR) "__getattribute__" = some (some (.builtin "BaseException.__getattribute__")))
    (ek_BadRow : PySem.W.findIn K (.ref aCBR) "__getattr__" = some none)
    (ed_BadRow : PySem.W.hasDictIn K aCBR = true)
    (ea_BadRow : PySem.W.findIn K (.ref aCBR) "__class__" = some (some (.builtin "object.__class__")))
    (em_BadRow : PySem.W.mroIn K aCBR (.type "object") = some true)
    (ge_s : PySem.W.specialIn K (.ref aCGE) "__getattribute__" = some (some (.builtin "type.__getattribute__")))
    (ge_r : PySem.W.readsIn K aCGE (.type "type") = true)
    (ge_f : PySem.W.findCls K (.ref aCGE) (.type "type") "__init__" = some (.val (.builtin "ValueError.__init__")))
    (xl_Never : K.lookup aCNE = some (excClassObj nm_Never qn_Never aCNE N_Never bs_Never [.ref aCGE, .type "ValueError", .type "Exception", .type "BaseException", .type "object"] true sn_Never su_Never ab_Never co_Never dd_Never u0_Never u1_Never u2_Never u3_Never u5_Never "ValueError.__new__"))
    (sa_Never : PySem.W.findIn K (.ref aCNE) "__setattr__" = some (some (.builtin "object.__setattr__")))
    (xb_Never : PySem.W.subIn K (.ref aCNE) (.type "BaseException") = some true)
    (xt_Never : PySem.W.typeIn K (.ref aCNE) = some (.type "type"))
    (xk_Never : PySem.W.keepIn K (.ref aCNE) = true)
    (na_Never_place : PySem.W.findIn K (.ref aCNE) "place" = some none)
    (eg_Never : PySem.W.findIn K (.ref aCNE) "__getattribute__" = some (some (.builtin "BaseException.__getattribute__")))
    (ek_Never : PySem.W.findIn K (.ref aCNE) "__getattr__" = some none)
    (ed_Never : PySem.W.hasDictIn K aCNE = true)
    (ea_Never : PySem.W.findIn K (.ref aCNE) "__class__" = some (some (.builtin "object.__class__")))
    (em_Never : PySem.W.mroIn K aCNE (.type "object") = some true)
    (xl_Broken : K.lookup aCBK = some (excClassObj nm_Broken qn_Broken aCBK N_Broken bs_Broken [.ref aCGE, .type "ValueError", .type "Exception", .type "BaseException", .type "object"] true sn_Broken su_Broken ab_Broken co_Broken dd_Broken u0_Broken u1_Broken u2_Broken u3_Broken u5_Broken "ValueError.__new__"))
    (sa_Broken : PySem.W.findIn K (.ref aCBK) "__setattr__" = some (some (.builtin "object.__setattr__")))
    (xb_Broken : PySem.W.subIn K (.ref aCBK) (.type "BaseException") = some true)
    (xt_Broken : PySem.W.typeIn K (.ref aCBK) = some (.type "type"))
    (xk_Broken : PySem.W.keepIn K (.ref aCBK) = true)
    (na_Broken_k : PySem.W.findIn K (.ref aCBK) "k" = some none)
    (na_Broken_stretch : PySem.W.findIn K (.ref aCBK) "stretch" = some none)
    (eg_Broken : PySem.W.findIn K (.ref aCBK) "__getattribute__" = some (some (.builtin "BaseException.__getattribute__")))
    (ek_Broken : PySem.W.findIn K (.ref aCBK) "__getattr__" = some none)
    (ed_Broken : PySem.W.hasDictIn K aCBK = true)
    (ea_Broken : PySem.W.findIn K (.ref aCBK) "__class__" = some (some (.builtin "object.__class__")))
    (em_Broken : PySem.W.mroIn K aCBK (.type "object") = some true)
    (kit_NoBound_GateError : PySem.W.kitOne K (.ref aCNB) (.ref aCGE) = some true)
    (kit_NoMoment_GateError : PySem.W.kitOne K (.ref aCNM) (.ref aCGE) = some true)
    (kit_NoCost_GateError : PySem.W.kitOne K (.ref aCNC) (.ref aCGE) = some true)
    (kit_NoName_GateError : PySem.W.kitOne K (.ref aCNN) (.ref aCGE) = some true)
    (kit_NoPlace_GateError : PySem.W.kitOne K (.ref aCNP) (.ref aCGE) = some true)
    (kit_NoVisit_GateError : PySem.W.kitOne K (.ref aCNV) (.ref aCGE) = some true)
    (kit_Late_GateError : PySem.W.kitOne K (.ref aCLT) (.ref aCGE) = some true)
    (kit_Full_GateError : PySem.W.kitOne K (.ref aCFU) (.ref aCGE) = some true)
    (kit_BadRow_GateError : PySem.W.kitOne K (.ref aCBR) (.ref aCGE) = some true)
    (kit_Never_GateError : PySem.W.kitOne K (.ref aCNE) (.ref aCGE) = some true)
    (kit_Broken_GateError : PySem.W.kitOne K (.ref aCBK) (.ref aCGE) = some true)
    (kit_NoBound_ValueError : PySem.W.kitOne K (.ref aCNB) (.type "ValueError") = some true)
    (kit_NoMoment_ValueError : PySem.W.kitOne K (.ref aCNM) (.type "ValueError") = some true)
    (kit_NoCost_ValueError : PySem.W.kitOne K (.ref aCNC) (.type "ValueError") = some true)
    (kit_NoName_ValueError : PySem.W.kitOne K (.ref aCNN) (.type "ValueError") = some true)
    (kit_NoPlace_ValueError : PySem.W.kitOne K (.ref aCNP) (.type "ValueError") = some true)
    (kit_NoVisit_ValueError : PySem.W.kitOne K (.ref aCNV) (.type "ValueError") = some true)
    (kit_Late_ValueError : PySem.W.kitOne K (.ref aCLT) (.type "ValueError") = some true)
    (kit_Full_ValueError : PySem.W.kitOne K (.ref aCFU) (.type "ValueError") = some true)
    (kit_BadRow_ValueError : PySem.W.kitOne K (.ref aCBR) (.type "ValueError") = some true)
    (kit_Never_ValueError : PySem.W.kitOne K (.ref aCNE) (.type "ValueError") = some true)
    (kit_Broken_ValueError : PySem.W.kitOne K (.ref aCBK) (.type "ValueError") = some true)
    (kit_NoBound_NoBound : PySem.W.kitOne K (.ref aCNB) (.ref aCNB) = some true)
    (kit_NoBound_NoMoment : PySem.W.kitOne K (.ref aCNB) (.ref aCNM) = some false)
    (kit_NoBound_NoCost : PySem.W.kitOne K (.ref aCNB) (.ref aCNC) = some false)
    (kit_NoBound_NoName : PySem.W.kitOne K (.ref aCNB) (.ref aCNN) = some false)
    (kit_NoBound_NoPlace : PySem.W.kitOne K (.ref aCNB) (.ref aCNP) = some false)
    (kit_NoBound_NoVisit : PySem.W.kitOne K (.ref aCNB) (.ref aCNV) = some false)
    (kit_NoBound_Late : PySem.W.kitOne K (.ref aCNB) (.ref aCLT) = some false)
    (kit_NoBound_Full : PySem.W.kitOne K (.ref aCNB) (.ref aCFU) = some false)
    (kit_NoBound_BadRow : PySem.W.kitOne K (.ref aCNB) (.ref aCBR) = some false)
    (kit_NoBound_Never : PySem.W.kitOne K (.ref aCNB) (.ref aCNE) = some false)
    (kit_NoBound_Broken : PySem.W.kitOne K (.ref aCNB) (.ref aCBK) = some false)
    (kit_NoMoment_NoBound : PySem.W.kitOne K (.ref aCNM) (.ref aCNB) = some false)
    (kit_NoMoment_NoMoment : PySem.W.kitOne K (.ref aCNM) (.ref aCNM) = some true)
    (kit_NoMoment_NoCost : PySem.W.kitOne K (.ref aCNM) (.ref aCNC) = some false)
    (kit_NoMoment_NoName : PySem.W.kitOne K (.ref aCNM) (.ref aCNN) = some false)
    (kit_NoMoment_NoPlace : PySem.W.kitOne K (.ref aCNM) (.ref aCNP) = some false)
    (kit_NoMoment_NoVisit : PySem.W.kitOne K (.ref aCNM) (.ref aCNV) = some false)
    (kit_NoMoment_Late : PySem.W.kitOne K (.ref aCNM) (.ref aCLT) = some false)
    (kit_NoMoment_Full : PySem.W.kitOne K (.ref aCNM) (.ref aCFU) = some false)
    (kit_NoMoment_BadRow : PySem.W.kitOne K (.ref aCNM) (.ref aCBR) = some false)
    (kit_NoMoment_Never : PySem.W.kitOne K (.ref aCNM) (.ref aCNE) = some false)
    (kit_NoMoment_Broken : PySem.W.kitOne K (.ref aCNM) (.ref aCBK) = some false)
    (kit_NoCost_NoBound : PySem.W.kitOne K (.ref aCNC) (.ref aCNB) = some false)
    (kit_NoCost_NoMoment : PySem.W.kitOne K (.ref aCNC) (.ref aCNM) = some false)
    (kit_NoCost_NoCost : PySem.W.kitOne K (.ref aCNC) (.ref aCNC) = some true)
    (kit_NoCost_NoName : PySem.W.kitOne K (.ref aCNC) (.ref aCNN) = some false)
    (kit_NoCost_NoPlace : PySem.W.kitOne K (.ref aCNC) (.ref aCNP) = some false)
    (kit_NoCost_NoVisit : PySem.W.kitOne K (.ref aCNC) (.ref aCNV) = some false)
    (kit_NoCost_Late : PySem.W.kitOne K (.ref aCNC) (.ref aCLT) = some false)
    (kit_NoCost_Full : PySem.W.kitOne K (.ref aCNC) (.ref aCFU) = some false)
    (kit_NoCost_BadRow : PySem.W.kitOne K (.ref aCNC) (.ref aCBR) = some false)
    (kit_NoCost_Never : PySem.W.kitOne K (.ref aCNC) (.ref aCNE) = some false)
    (kit_NoCost_Broken : PySem.W.kitOne K (.ref aCNC) (.ref aCBK) = some false)
    (kit_NoName_NoBound : PySem.W.kitOne K (.ref aCNN) (.ref aCNB) = some false)
    (kit_NoName_NoMoment : PySem.W.kitOne K (.ref aCNN) (.ref aCNM) = some false)
    (kit_NoName_NoCost : PySem.W.kitOne K (.ref aCNN) (.ref aCNC) = some false)
    (kit_NoName_NoName : PySem.W.kitOne K (.ref aCNN) (.ref aCNN) = some true)
    (kit_NoName_NoPlace : PySem.W.kitOne K (.ref aCNN) (.ref aCNP) = some false)
    (kit_NoName_NoVisit : PySem.W.kitOne K (.ref aCNN) (.ref aCNV) = some false)
    (kit_NoName_Late : PySem.W.kitOne K (.ref aCNN) (.ref aCLT) = some false)
    (kit_NoName_Full : PySem.W.kitOne K (.ref aCNN) (.ref aCFU) = some false)
    (kit_NoName_BadRow : PySem.W.kitOne K (.ref aCNN) (.ref aCBR) = some false)
    (kit_NoName_Never : PySem.W.kitOne K (.ref aCNN) (.ref aCNE) = some false)
    (kit_NoName_Broken : PySem.W.kitOne K (.ref aCNN) (.ref aCBK) = some false)
    (kit_NoPlace_NoBound : PySem.W.kitOne K (.ref aCNP) (.ref aCNB) = some false)
    (kit_NoPlace_NoMoment : PySem.W.kitOne K (.ref aCNP) (.ref aCNM) = some false)
    (kit_NoPlace_NoCost : PySem.W.kitOne K (.ref aCNP) (.ref aCNC) = some false)
    (kit_NoPlace_NoName : PySem.W.kitOne K (.ref aCNP) (.ref aCNN) = some false)
    (kit_NoPlace_NoPlace : PySem.W.kitOne K (.ref aCNP) (.ref aCNP) = some true)
    (kit_NoPlace_NoVisit : PySem.W.kitOne K (.ref aCNP) (.ref aCNV) = some false)
    (kit_NoPlace_Late : PySem.W.kitOne K (.ref aCNP) (.ref aCLT) = some false)
    (kit_NoPlace_Full : PySem.W.kitOne K (.ref aCNP) (.ref aCFU) = some false)
    (kit_NoPlace_BadRow : PySem.W.kitOne K (.ref aCNP) (.ref aCBR) = some false)
    (kit_NoPlace_Never : PySem.W.kitOne K (.ref aCNP) (.ref aCNE) = some false)
    (kit_NoPlace_Broken : PySem.W.kitOne K (.ref aCNP) (.ref aCBK) = some false)
    (kit_NoVisit_NoBound : PySem.W.kitOne K (.ref aCNV) (.ref aCNB) = some false)
    (kit_NoVisit_NoMoment : PySem.W.kitOne K (.ref aCNV) (.ref aCNM) = some false)
    (kit_NoVisit_NoCost : PySem.W.kitOne K (.ref aCNV) (.ref aCNC) = some false)
    (kit_NoVisit_NoName : PySem.W.kitOne K (.ref aCNV) (.ref aCNN) = some false)
    (kit_NoVisit_NoPlace : PySem.W.kitOne K (.ref aCNV) (.ref aCNP) = some false)
    (kit_NoVisit_NoVisit : PySem.W.kitOne K (.ref aCNV) (.ref aCNV) = some true)
    (kit_NoVisit_Late : PySem.W.kitOne K (.ref aCNV) (.ref aCLT) = some false)
    (kit_NoVisit_Full : PySem.W.kitOne K (.ref aCNV) (.ref aCFU) = some false)
    (kit_NoVisit_BadRow : PySem.W.kitOne K (.ref aCNV) (.ref aCBR) = some false)
    (kit_NoVisit_Never : PySem.W.kitOne K (.ref aCNV) (.ref aCNE) = some false)
    (kit_NoVisit_Broken : PySem.W.kitOne K (.ref aCNV) (.ref aCBK) = some false)
    (kit_Late_NoBound : PySem.W.kitOne K (.ref aCLT) (.ref aCNB) = some false)
    (kit_Late_NoMoment : PySem.W.kitOne K (.ref aCLT) (.ref aCNM) = some false)
    (kit_Late_NoCost : PySem.W.kitOne K (.ref aCLT) (.ref aCNC) = some false)
    (kit_Late_NoName : PySem.W.kitOne K (.ref aCLT) (.ref aCNN) = some false)
    (kit_Late_NoPlace : PySem.W.kitOne K (.ref aCLT) (.ref aCNP) = some false)
    (kit_Late_NoVisit : PySem.W.kitOne K (.ref aCLT) (.ref aCNV) = some false)
    (kit_Late_Late : PySem.W.kitOne K (.ref aCLT) (.ref aCLT) = some true)
    (kit_Late_Full : PySem.W.kitOne K (.ref aCLT) (.ref aCFU) = some false)
    (kit_Late_BadRow : PySem.W.kitOne K (.ref aCLT) (.ref aCBR) = some false)
    (kit_Late_Never : PySem.W.kitOne K (.ref aCLT) (.ref aCNE) = some false)
    (kit_Late_Broken : PySem.W.kitOne K (.ref aCLT) (.ref aCBK) = some false)
    (kit_Full_NoBound : PySem.W.kitOne K (.ref aCFU) (.ref aCNB) = some false)
    (kit_Full_NoMoment : PySem.W.kitOne K (.ref aCFU) (.ref aCNM) = some false)
    (kit_Full_NoCost : PySem.W.kitOne K (.ref aCFU) (.ref aCNC) = some false)
    (kit_Full_NoName : PySem.W.kitOne K (.ref aCFU) (.ref aCNN) = some false)
    (kit_Full_NoPlace : PySem.W.kitOne K (.ref aCFU) (.ref aCNP) = some false)
    (kit_Full_NoVisit : PySem.W.kitOne K (.ref aCFU) (.ref aCNV) = some false)
    (kit_Full_Late : PySem.W.kitOne K (.ref aCFU) (.ref aCLT) = some false)
    (kit_Full_Full : PySem.W.kitOne K (.ref aCFU) (.ref aCFU) = some true)
    (kit_Full_BadRow : PySem.W.kitOne K (.ref aCFU) (.ref aCBR) = some false)
    (kit_Full_Never : PySem.W.kitOne K (.ref aCFU) (.ref aCNE) = some false)
    (kit_Full_Broken : PySem.W.kitOne K (.ref aCFU) (.ref aCBK) = some false)
    (kit_BadRow_NoBound : PySem.W.kitOne K (.ref aCBR) (.ref aCNB) = some false)
    (kit_BadRow_NoMoment : PySem.W.kitOne K (.ref aCBR) (.ref aCNM) = some false)
    (kit_BadRow_NoCost : PySem.W.kitOne K (.ref aCBR) (.ref aCNC) = some false)
    (kit_BadRow_NoName : PySem.W.kitOne K (.ref aCBR) (.ref aCNN) = some false)
    (kit_BadRow_NoPlace : PySem.W.kitOne K (.ref aCBR) (.ref aCNP) = some false)
    (kit_BadRow_NoVisit : PySem.W.kitOne K (.ref aCBR) (.ref aCNV) = some false)
    (kit_BadRow_Late : PySem.W.kitOne K (.ref aCBR) (.ref aCLT) = some false)
    (kit_BadRow_Full : PySem.W.kitOne K (.ref aCBR) (.ref aCFU) = some false)
    (kit_BadRow_BadRow : PySem.W.kitOne K (.ref aCBR) (.ref aCBR) = some true)
    (kit_BadRow_Never : PySem.W.kitOne K (.ref aCBR) (.ref aCNE) = some false)
    (kit_BadRow_Broken : PySem.W.kitOne K (.ref aCBR) (.ref aCBK) = some false)
    (kit_Never_NoBound : PySem.W.kitOne K (.ref aCNE) (.ref aCNB) = some false)
    (kit_Never_NoMoment : PySem.W.kitOne K (.ref aCNE) (.ref aCNM) = some false)
    (kit_Never_NoCost : PySem.W.kitOne K (.ref aCNE) (.ref aCNC) = some false)
    (kit_Never_NoName : PySem.W.kitOne K (.ref aCNE) (.ref aCNN) = some false)
    (kit_Never_NoPlace : PySem.W.kitOne K (.ref aCNE) (.ref aCNP) = some false)
    (kit_Never_NoVisit : PySem.W.kitOne K (.ref aCNE) (.ref aCNV) = some false)
    (kit_Never_Late : PySem.W.kitOne K (.ref aCNE) (.ref aCLT) = some false)
    (kit_Never_Full : PySem.W.kitOne K (.ref aCNE) (.ref aCFU) = some false)
    (kit_Never_BadRow : PySem.W.kitOne K (.ref aCNE) (.ref aCBR) = some false)
    (kit_Never_Never : PySem.W.kitOne K (.ref aCNE) (.ref aCNE) = some true)
    (kit_Never_Broken : PySem.W.kitOne K (.ref aCNE) (.ref aCBK) = some false)
    (kit_Broken_NoBound : PySem.W.kitOne K (.ref aCBK) (.ref aCNB) = some false)
    (kit_Broken_NoMoment : PySem.W.kitOne K (.ref aCBK) (.ref aCNM) = some false)
    (kit_Broken_NoCost : PySem.W.kitOne K (.ref aCBK) (.ref aCNC) = some false)
    (kit_Broken_NoName : PySem.W.kitOne K (.ref aCBK) (.ref aCNN) = some false)
    (kit_Broken_NoPlace : PySem.W.kitOne K (.ref aCBK) (.ref aCNP) = some false)
    (kit_Broken_NoVisit : PySem.W.kitOne K (.ref aCBK) (.ref aCNV) = some false)
    (kit_Broken_Late : PySem.W.kitOne K (.ref aCBK) (.ref aCLT) = some false)
    (kit_Broken_Full : PySem.W.kitOne K (.ref aCBK) (.ref aCFU) = some false)
    (kit_Broken_BadRow : PySem.W.kitOne K (.ref aCBK) (.ref aCBR) = some false)
    (kit_Broken_Never : PySem.W.kitOne K (.ref aCBK) (.ref aCNE) = some false)
    (kit_Broken_Broken : PySem.W.kitOne K (.ref aCBK) (.ref aCBK) = some true)
    (m_len : PySem.W.nsIn K mainGlobals "len" = some none)
    (m_isinstance : PySem.W.nsIn K mainGlobals "isinstance" = some none)
    (m_range : PySem.W.nsIn K mainGlobals "range" = some none)
    (m_ValueError : PySem.W.nsIn K mainGlobals "ValueError" = some none)
    : ∃ fd : FuncData, (∀ (s : Shared) (v : Value), BindsTo s fd ⟨[v], []⟩ [("_law_script", v)]) ∧ ∀ base : Heap, K.In base → base.Ns mainGlobals mg → FnOk l.prog w K mg base (L2.CX l.prog w) 3 fa fd ["_law_script"] (toSp K DL.spLaw) := by
  have e := hfa.symm.trans (PySem.W.mg_of X G a4)
  cases e
  have T : Txt K mg ⟨aCGE, aCNB, aCNM, aCNC, aCNN, aCNP, aCNV, aCLT, aCFU, aCBR, aCNE, aCBK⟩ := ⟨isn, ist, ⟨xq_GateError, PySem.W.mg_of X G n_GateError, xk_GateError, xb_GateError, xt_GateError⟩, ⟨eg_GateError, ek_GateError, xb_GateError, ed_GateError, ea_GateError, isn, ist, em_GateError⟩, ⟨xq_NoBound, PySem.W.mg_of X G n_NoBound, xk_NoBound, xb_NoBound, xt_NoBound⟩, ⟨eg_NoBound, ek_NoBound, xb_NoBound, ed_NoBound, ea_NoBound, isn, ist, em_NoBound⟩, ⟨xq_NoMoment, PySem.W.mg_of X G n_NoMoment, xk_NoMoment, xb_NoMoment, xt_NoMoment⟩, ⟨eg_NoMoment, ek_NoMoment, xb_NoMoment, ed_NoMoment, ea_NoMoment, isn, ist, em_NoMoment⟩, ⟨xq_NoCost, PySem.W.mg_of X G n_NoCost, xk_NoCost, xb_NoCost, xt_NoCost⟩, ⟨eg_NoCost, ek_NoCost, xb_NoCost, ed_NoCost, ea_NoCost, isn, ist, em_NoCost⟩, ⟨xq_NoName, PySem.W.mg_of X G n_NoName, xk_NoName, xb_NoName, xt_NoName⟩, ⟨eg_NoName, ek_NoName, xb_NoName, ed_NoName, ea_NoName, isn, ist, em_NoName⟩, ⟨xq_NoPlace, PySem.W.mg_of X G n_NoPlace, xk_NoPlace, xb_NoPlace, xt_NoPlace⟩, ⟨eg_NoPlace, ek_NoPlace, xb_NoPlace, ed_NoPlace, ea_NoPlace, isn, ist, em_NoPlace⟩, ⟨xq_NoVisit, PySem.W.mg_of X G n_NoVisit, xk_NoVisit, xb_NoVisit, xt_NoVisit⟩, ⟨eg_NoVisit, ek_NoVisit, xb_NoVisit, ed_NoVisit, ea_NoVisit, isn, ist, em_NoVisit⟩, ⟨xq_Late, PySem.W.mg_of X G n_Late, xk_Late, xb_Late, xt_Late⟩, ⟨eg_Late, ek_Late, xb_Late, ed_Late, ea_Late, isn, ist, em_Late⟩, ⟨xq_Full, PySem.W.mg_of X G n_Full, xk_Full, xb_Full, xt_Full⟩, ⟨eg_Full, ek_Full, xb_Full, ed_Full, ea_Full, isn, ist, em_Full⟩, ⟨xq_BadRow, PySem.W.mg_of X G n_BadRow, xk_BadRow, xb_BadRow, xt_BadRow⟩, ⟨eg_BadRow, ek_BadRow, xb_BadRow, ed_BadRow, ea_BadRow, isn, ist, em_BadRow⟩, ⟨PySem.W.mg_of X G n_GateError, ge_s, ge_r, ge_f⟩, ⟨⟨_, _, _, _, _, _, _, _, _, _, _, _, _, _, _, xl_Never, by first | rfl | (unfold HandSPX.refsVE; rfl) | (unfold HandSPX.refsVE; simp)⟩, sa_Never, xb_Never, xt_Never, xk_Never⟩, na_Never_place, ⟨eg_Never, ek_Never, xb_Never, ed_Never, ea_Never, isn, ist, em_Never⟩, ⟨⟨_, _, _, _, _, _, _, _, _, _, _, _, _, _, _, xl_Broken, by first | rfl | (unfold HandSPX.refsVE; rfl) | (unfold HandSPX.refsVE; simp)⟩, sa_Broken, xb_Broken, xt_Broken, xk_Broken⟩, na_Broken_k, na_Broken_stretch, ⟨eg_Broken, ek_Broken, xb_Broken, ed_Broken, ea_Broken, isn, ist, em_Broken⟩, kit_NoBound_GateError, kit_NoMoment_GateError, kit_NoCost_GateError, kit_NoName_GateError, kit_NoPlace_GateError, kit_NoVisit_GateError, kit_Late_GateError, kit_Full_GateError, kit_BadRow_GateError, kit_Never_GateError, kit_Broken_GateError, kit_NoBound_ValueError, kit_NoMoment_ValueError, kit_NoCost_ValueError, kit_NoName_ValueError, kit_NoPlace_ValueError, kit_NoVisit_ValueError, kit_Late_ValueError, kit_Full_ValueError, kit_BadRow_ValueError, kit_Never_ValueError, kit_Broken_ValueError, kit_NoBound_NoBound, kit_NoBound_NoMoment, kit_NoBound_NoCost, kit_NoBound_NoName, kit_NoBound_NoPlace, kit_NoBound_NoVisit, kit_NoBound_Late, kit_NoBound_Full, kit_NoBound_BadRow, kit_NoBound_Never, kit_NoBound_Broken, kit_NoMoment_NoBound, kit_NoMoment_NoMoment, kit_NoMoment_NoCost, kit_NoMoment_NoName, kit_NoMoment_NoPlace, kit_NoMoment_NoVisit, kit_NoMoment_Late, kit_NoMoment_Full, kit_NoMoment_BadRow, kit_NoMoment_Never, kit_NoMoment_Broken, kit_NoCost_NoBound, kit_NoCost_NoMoment, kit_NoCost_NoCost, kit_NoCost_NoName, kit_NoCost_NoPlace, kit_NoCost_NoVisit, kit_NoCost_Late, kit_NoCost_Full, kit_NoCost_BadRow, kit_NoCost_Never, kit_NoCost_Broken, kit_NoName_NoBound, kit_NoName_NoMoment, kit_NoName_NoCost, kit_NoName_NoName, kit_NoName_NoPlace, kit_NoName_NoVisit, kit_NoName_Late, kit_NoName_Full, kit_NoName_BadRow, kit_NoName_Never, kit_NoName_Broken, kit_NoPlace_NoBound, kit_NoPlace_NoMoment, kit_NoPlace_NoCost, kit_NoPlace_NoName, kit_NoPlace_NoPlace, kit_NoPlace_NoVisit, kit_NoPlace_Late, kit_NoPlace_Full, kit_NoPlace_BadRow, kit_NoPlace_Never, kit_NoPlace_Broken, kit_NoVisit_NoBound, kit_NoVisit_NoMoment, kit_NoVisit_NoCost, kit_NoVisit_NoName, kit_NoVisit_NoPlace, kit_NoVisit_NoVisit, kit_NoVisit_Late, kit_NoVisit_Full, kit_NoVisit_BadRow, kit_NoVisit_Never, kit_NoVisit_Broken, kit_Late_NoBound, kit_Late_NoMoment, kit_Late_NoCost, kit_Late_NoName, kit_Late_NoPlace, kit_Late_NoVisit, kit_Late_Late, kit_Late_Full, kit_Late_BadRow, kit_Late_Never, kit_Late_Broken, kit_Full_NoBound, kit_Full_NoMoment, kit_Full_NoCost, kit_Full_NoName, kit_Full_NoPlace, kit_Full_NoVisit, kit_Full_Late, kit_Full_Full, kit_Full_BadRow, kit_Full_Never, kit_Full_Broken, kit_BadRow_NoBound, kit_BadRow_NoMoment, kit_BadRow_NoCost, kit_BadRow_NoName, kit_BadRow_NoPlace, kit_BadRow_NoVisit, kit_BadRow_Late, kit_BadRow_Full, kit_BadRow_BadRow, kit_BadRow_Never, kit_BadRow_Broken, kit_Never_NoBound, kit_Never_NoMoment, kit_Never_NoCost, kit_Never_NoName, kit_Never_NoPlace, kit_Never_NoVisit, kit_Never_Late, kit_Never_Full, kit_Never_BadRow, kit_Never_Never, kit_Never_Broken, kit_Broken_NoBound, kit_Broken_NoMoment, kit_Broken_NoCost, kit_Broken_NoName, kit_Broken_NoPlace, kit_Broken_NoVisit, kit_Broken_Late, kit_Broken_Full, kit_Broken_BadRow, kit_Broken_Never, kit_Broken_Broken, PySem.W.mg_none_of X G m_len, PySem.W.mg_none_of X G m_isinstance, PySem.W.mg_none_of X G m_range, PySem.W.mg_none_of X G m_ValueError, ⟨_, .ref _, PySem.W.mg_of X G n_GateError, rfl, .obj _⟩, ⟨_, .ref _, PySem.W.mg_of X G n_NoBound, rfl, .obj _⟩, ⟨_, .ref _, PySem.W.mg_of X G n_NoMoment, rfl, .obj _⟩, ⟨_, .ref _, PySem.W.mg_of X G n_NoCost, rfl, .obj _⟩, ⟨_, .ref _, PySem.W.mg_of X G n_NoName, rfl, .obj _⟩, ⟨_, .ref _, PySem.W.mg_of X G n_NoPlace, rfl, .obj _⟩, ⟨_, .ref _, PySem.W.mg_of X G n_NoVisit, rfl, .obj _⟩, ⟨_, .ref _, PySem.W.mg_of X G n_Late, rfl, .obj _⟩, ⟨_, .ref _, PySem.W.mg_of X G n_Full, rfl, .obj _⟩, ⟨_, .ref _, PySem.W.mg_of X G n_BadRow, rfl, .obj _⟩, ⟨_, .ref _, PySem.W.mg_of X G n_Never, rfl, .obj _⟩, ⟨_, .ref _, PySem.W.mg_of X G n_Broken, rfl, .obj _⟩⟩
  have F0 := fun_mk (st := s_Never_init) l0 c0 k0
  have b0 := F0.binds (ps := ["self", "place"]) fun _ _ _ _ _ _ us hl => match us, hl with | [_, _], _ => rfl
  have F1 := fun_mk (st := s_Broken_init) l1 c1 k1
  have b1 := F1.binds (ps := ["self", "k", "stretch"]) fun _ _ _ _ _ _ us hl => match us, hl with | [_, _, _], _ => rfl
  have F2 := fun_mk (st := s__law_cell) l2 c2 k2
  have b2 := F2.binds (ps := ["_law_script", "_law_k"]) fun _ _ _ _ _ _ us hl => match us, hl with | [_, _], _ => rfl
  have F3 := fun_mk (st := s__law_kinds) l3 c3 k3
  have b3 := F3.binds (ps := ["_law_e"]) fun _ _ _ _ _ _ us hl => match us, hl with | [_], _ => rfl
  have F4 := fun_mk (st := s_law) l4 c4 k4
  refine ⟨PySem.W.fnOf "law" "law" (defArgs s_law) (defBody s_law) (defScope s_law) .none kV4 dc4 pm4 an4 cd4 ct4, fun s v => .of_eq rfl, fun base _ _ => ?_⟩
  have G0 := ok_Never_init (Pg := l.prog) (w := w) (base := base) (A := ⟨aCGE, aCNB, aCNM, aCNC, aCNN, aCNP, aCNV, aCLT, aCFU, aCBR, aCNE, aCBK⟩) F0 T
  have F_Never : DExI l.prog w K mg base 1 "Never" aCNE (sp1 "place" aCNE) := ⟨_, _, _, G0, b0, ⟨T.oc_Never, PySem.W.mg_of X G n_Never, a0_Never, tf_Never⟩⟩
  have G1 := ok_Broken_init (Pg := l.prog) (w := w) (base := base) (A := ⟨aCGE, aCNB, aCNM, aCNC, aCNN, aCNP, aCNV, aCLT, aCFU, aCBR, aCNE, aCBK⟩) F1 T
  have F_Broken : DExI l.prog w K mg base 1 "Broken" aCBK (sp2 "k" "stretch" aCBK) := ⟨_, _, _, G1, b1, ⟨T.oc_Broken, PySem.W.mg_of X G n_Broken, a1_Broken, tf_Broken⟩⟩
  have G2 := ok__law_cell (Pg := l.prog) (w := w) (base := base) (A := ⟨aCGE, aCNB, aCNM, aCNC, aCNN, aCNP, aCNV, aCLT, aCFU, aCBR, aCNE, aCBK⟩) F2 T
  have F__law_cell : DCal l.prog w K mg base 1 "_law_cell" (S__law_cell ⟨aCGE, aCNB, aCNM, aCNC, aCNN, aCNP, aCNV, aCLT, aCFU, aCBR, aCNE, aCBK⟩) [] := ⟨_, dfn_of G2 b2, PySem.W.mg_of X G a2, k2⟩
  have G3 := ok__law_kinds (Pg := l.prog) (w := w) (base := base) (A := ⟨aCGE, aCNB, aCNM, aCNC, aCNN, aCNP, aCNV, aCLT, aCFU, aCBR, aCNE, aCBK⟩) F3 T
  have F__law_kinds : DCal l.prog w K mg base 1 "_law_kinds" (S__law_kinds ⟨aCGE, aCNB, aCNM, aCNC, aCNN, aCNP, aCNV, aCLT, aCFU, aCBR, aCNE, aCBK⟩) [] := ⟨_, dfn_of G3 b3, PySem.W.mg_of X G a3, k3⟩
  exact ok_law F4 T F__law_cell F_Never F_Broken F__law_kinds
theorem walk {l : PySem.W.OpenLaw} {q : Program} {loose : List Str} {XP : (Str → Option Value) → Heap → Prop} {YP : World → Heap → Prop} {d : DefRec} {K : Params → PySem.W.Frag} (hn : l.most = some 63) (hdf : d.params.defaults = [])
    (hY : ∀ (w : World) (h : Heap), YP w h → (K w.params).In h)
    (F : ∀ (w : World) (mg : Str → Option Value) (fa : Addr) (h : Heap), (K w.params).In h → h.Ns mainGlobals mg → mg d.name = some (.ref fa) →
      ∃ fd : FuncData, (∀ (s : Shared) (u : Value), BindsTo s fd ⟨[u], []⟩ [("_law_script", u)]) ∧ ∀ base : Heap, (K w.params).In base → base.Ns mainGlobals mg → FnOk l.prog w (K w.params) mg base (L2.CX l.prog w) 3 fa fd ["_law_script"] (toSp (K w.params) DL.spLaw)) :
    PySem.W.WalkO q loose XP YP l.row.toRowW d [] (fun f vs => PySem.call f vs) :=
  L2.walk_of (n := 63) (k := 3) (x := "_law_script") (CX := fun w => L2.CX l.prog w) (sp := fun w => toSp (K w.params) DL.spLaw) hn (by decide) hdf ⟨rfl, by decide, by decide⟩ hY F (fun _ _ a ns hl _ hS => law_sp hl hS) fun w H s e s' h => law_CX H s e s' h
end TSL

open PySem PySem.W PyProof.Rows in
set_option maxRecDepth 100000 in
set_option maxHeartbeats 0 in
theorem PySem.Challenge.cw_turnstile_k01_refusals_apart_holds : PySem.Challenge.rw_turnstile_k01_refusals_apart.Holds := by
  w_on; o_law; k_head; (case hw => w_witness2)
  k_fill
  refine TSL.walk (l := PySem.Challenge.rw_turnstile_k01_refusals_apart) rfl rfl (fun w h Y => PySem.W.kIn_of Y) ?F
  case F =>
    intro w mg fa h KX G hmg
    refine' TSL.all_mk KX G hmg ?n_GateError ?n_NoBound ?n_NoMoment ?n_NoCost ?n_NoName ?n_NoPlace ?n_NoVisit ?n_Late ?n_Full ?n_BadRow ?n_Never ?n_Broken ?a0_Never ?tf_Never ?i0 ?l0 ?c0 ?k0 ?a1_Broken ?tf_Broken ?i1 ?l1 ?c1 ?k1 ?a2 ?l2 ?c2 ?k2 ?a3 ?l3 ?c3 ?k3 ?a4 ?l4 ?c4 ?k4 ?isn ?ist ?xq_GateError ?xk_GateError ?xb_GateError ?xt_GateError ?eg_GateError ?ek_GateError ?ed_GateError ?ea_GateError ?em_GateError ?xq_NoBound ?xk_NoBound ?xb_NoBound ?xt_NoBound ?eg_NoBound ?ek_NoBound ?ed_NoBound ?ea_NoBound ?em_NoBound ?xq_NoMoment ?xk_NoMoment ?xb_NoMoment ?xt_NoMoment ?eg_NoMoment ?ek_NoMoment ?ed_NoMoment ?ea_NoMoment ?em_NoMoment ?xq_NoCost ?xk_NoCost ?xb_NoCost ?xt_NoCost ?eg_NoCost ?ek_NoCost ?ed_NoCost ?ea_NoCost ?em_NoCost ?xq_NoName ?xk_NoName ?xb_NoName ?xt_NoName ?eg_NoName ?ek_NoName ?ed_NoName ?ea_NoName ?em_NoName ?xq_NoPlace ?xk_NoPlace ?xb_NoPlace ?xt_NoPlace ?eg_NoPlace ?ek_NoPlace ?ed_NoPlace ?ea_NoPlace ?em_NoPlace ?xq_NoVisit ?xk_NoVisit ?xb_NoVisit ?xt_NoVisit ?eg_NoVisit ?ek_NoVisit ?ed_NoVisit ?ea_NoVisit ?em_NoVisit ?xq_Late ?xk_Late ?xb_Late ?xt_Late ?eg_Late ?ek_Late ?ed_Late ?ea_Late ?em_Late ?xq_Full ?xk_Full ?xb_Full ?xt_Full ?eg_Full ?ek_Full ?ed_Full ?ea_Full ?em_Full ?xq_BadRow ?xk_BadRow ?xb_BadRow ?xt_BadRow ?eg_BadRow ?ek_BadRow ?ed_BadRow ?ea_BadRow ?em_BadRow ?ge_s ?ge_r ?ge_f ?xl_Never ?sa_Never ?xb_Never ?xt_Never ?xk_Never ?na_Never_place ?eg_Never ?ek_Never ?ed_Never ?ea_Never ?em_Never ?xl_Broken ?sa_Broken ?xb_Broken ?xt_Broken ?xk_Broken ?na_Broken_k ?na_Broken_stretch ?eg_Broken ?ek_Broken ?ed_Broken ?ea_Broken ?em_Broken ?kit_NoBound_GateError ?kit_NoMoment_GateError ?kit_NoCost_GateError ?kit_NoName_GateError ?kit_NoPlace_GateError ?kit_NoVisit_GateError ?kit_Late_GateError ?kit_Full_GateError ?kit_BadRow_GateError ?kit_Never_GateError ?kit_Broken_GateError ?kit_NoBound_ValueError ?kit_NoMoment_ValueError ?kit_NoCost_ValueError ?kit_NoName_ValueError ?kit_NoPlace_ValueError ?kit_NoVisit_ValueError ?kit_Late_ValueError ?kit_Full_ValueError ?kit_BadRow_ValueError ?kit_Never_ValueError ?kit_Broken_ValueError ?kit_NoBound_NoBound ?kit_NoBound_NoMoment ?kit_NoBound_NoCost ?kit_NoBound_NoName ?kit_NoBound_NoPlace ?kit_NoBound_NoVisit ?kit_NoBound_Late ?kit_NoBound_Full ?kit_NoBound_BadRow ?kit_NoBound_Never ?kit_NoBound_Broken ?kit_NoMoment_NoBound ?kit_NoMoment_NoMoment ?kit_NoMoment_NoCost ?kit_NoMoment_NoName ?kit_NoMoment_NoPlace ?kit_NoMoment_NoVisit ?kit_NoMoment_Late ?kit_NoMoment_Full ?kit_NoMoment_BadRow ?kit_NoMoment_Never ?kit_NoMoment_Broken ?kit_NoCost_NoBound ?kit_NoCost_NoMoment ?kit_NoCost_NoCost ?kit_NoCost_NoName ?kit_NoCost_NoPlace ?kit_NoCost_NoVisit ?kit_NoCost_Late ?kit_NoCost_Full ?kit_NoCost_BadRow ?kit_NoCost_Never ?kit_NoCost_Broken ?kit_NoName_NoBound ?kit_NoName_NoMoment ?kit_NoName_NoCost ?kit_NoName_NoName ?kit_NoName_NoPlace ?kit_NoName_NoVisit ?kit_NoName_Late ?kit_NoName_Full ?kit_NoName_BadRow ?kit_NoName_Never ?kit_NoName_Broken ?kit_NoPlace_NoBound ?kit_NoPlace_NoMoment ?kit_NoPlace_NoCost ?kit_NoPlace_NoName ?kit_NoPlace_NoPlace ?kit_NoPlace_NoVisit ?kit_NoPlace_Late ?kit_NoPlace_Full ?kit_NoPlace_BadRow ?kit_NoPlace_Never ?kit_NoPlace_Broken ?kit_NoVisit_NoBound ?kit_NoVisit_NoMoment ?kit_NoVisit_NoCost ?kit_NoVisit_NoName ?kit_NoVisit_NoPlace ?kit_NoVisit_NoVisit ?kit_NoVisit_Late ?kit_NoVisit_Full ?kit_NoVisit_BadRow ?kit_NoVisit_Never ?kit_NoVisit_Broken ?kit_Late_NoBound ?kit_Late_NoMoment ?kit_Late_NoCost ?kit_Late_NoName ?kit_Late_NoPlace ?kit_Late_NoVisit ?kit_Late_Late ?kit_Late_Full ?kit_Late_BadRow ?kit_Late_Never ?kit_Late_Broken ?kit_Full_NoBound ?kit_Full_NoMoment ?kit_Full_NoCost ?kit_Full_NoName ?kit_Full_NoPlace ?kit_Full_NoVisit ?kit_Full_Late ?kit_Full_Full ?kit_Full_BadRow ?kit_Full_Never ?kit_Full_Broken ?kit_BadRow_NoBound ?kit_BadRow_NoMoment ?kit_BadRow_NoCost ?kit_BadRow_NoName ?kit_BadRow_NoPlace ?kit_BadRow_NoVisit ?kit_BadRow_Late ?kit_BadRow_Full ?kit_BadRow_BadRow ?kit_BadRow_Never ?kit_BadRow_Broken ?kit_Never_NoBound ?kit_Never_NoMoment ?kit_Never_NoCost ?kit_Never_NoName ?kit_Never_NoPlace ?kit_Never_NoVisit ?kit_Never_Late ?kit_Never_Full ?kit_Never_BadRow ?kit_Never_Never ?kit_Never_Broken ?kit_Broken_NoBound ?kit_Broken_NoMoment ?kit_Broken_NoCost ?kit_Broken_NoName ?kit_Broken_NoPlace ?kit_Broken_NoVisit ?kit_Broken_Late ?kit_Broken_Full ?kit_Broken_BadRow ?kit_Broken_Never ?kit_Broken_Broken ?m_len ?m_isinstance ?m_range ?m_ValueError
    (case n_GateError => k_is)
    (case n_NoBound => k_is)
    (case n_NoMoment => k_is)
    (case n_NoCost => k_is)
    (case n_NoName => k_is)
    (case n_NoPlace => k_is)
    (case n_NoVisit => k_is)
    (case n_Late => k_is)
    (case n_Full => k_is)
    (case n_BadRow => k_is)
    (case n_Never => k_is)
    (case n_Broken => k_is)
    (case a0_Never => k_is)
    (case tf_Never => k_is)
    (case i0 => k_is)
    (case l0 => k_is)
    (case c0 => k_is)
    (case k0 => k_is)
    (case a1_Broken => k_is)
    (case tf_Broken => k_is)
    (case i1 => k_is)
    (case l1 => k_is)
    (case c1 => k_is)
    (case k1 => k_is)
    (case a2 => k_is)
    (case l2 => k_is)
    (case c2 => k_is)
    (case k2 => k_is)
    (case a3 => k_is)
    (case l3 => k_is)
    (case c3 => k_is)
    (case k3 => k_is)
    (case a4 => k_is)
    (case l4 => k_is)
    (case c4 => k_is)
    (case k4 => k_is)
    (case isn => k_is)
    (case ist => k_is)
    (case xq_GateError => k_exc)
    (case xk_GateError => k_is)
    (case xb_GateError => k_is)
    (case xt_GateError => k_is)
    (case eg_GateError => k_is)
    (case ek_GateError => k_is)
    (case ed_GateError => k_is)
    (case ea_GateError => k_is)
    (case em_GateError => k_is)
    (case xq_NoBound => k_exc)
    (case xk_NoBound => k_is)
    (case xb_NoBound => k_is)
    (case xt_NoBound => k_is)
    (case eg_NoBound => k_is)
    (case ek_NoBound => k_is)
    (case ed_NoBound => k_is)
    (case ea_NoBound => k_is)
    (case em_NoBound => k_is)
    (case xq_NoMoment => k_exc)
    (case xk_NoMoment => k_is)
    (case xb_NoMoment => k_is)
    (case xt_NoMoment => k_is)
    (case eg_NoMoment => k_is)
    (case ek_NoMoment => k_is)
    (case ed_NoMoment => k_is)
    (case ea_NoMoment => k_is)
    (case em_NoMoment => k_is)
    (case xq_NoCost => k_exc)
    (case xk_NoCost => k_is)
    (case xb_NoCost => k_is)
    (case xt_NoCost => k_is)
    (case eg_NoCost => k_is)
    (case ek_NoCost => k_is)
    (case ed_NoCost => k_is)
    (case ea_NoCost => k_is)
    (case em_NoCost => k_is)
    (case xq_NoName => k_exc)
    (case xk_NoName => k_is)
    (case xb_NoName => k_is)
    (case xt_NoName => k_is)
    (case eg_NoName => k_is)
    (case ek_NoName => k_is)
    (case ed_NoName => k_is)
    (case ea_NoName => k_is)
    (case em_NoName => k_is)
    (case xq_NoPlace => k_exc)
    (case xk_NoPlace => k_is)
    (case xb_NoPlace => k_is)
    (case xt_NoPlace => k_is)
    (case eg_NoPlace => k_is)
    (case ek_NoPlace => k_is)
    (case ed_NoPlace => k_is)
    (case ea_NoPlace => k_is)
    (case em_NoPlace => k_is)
    (case xq_NoVisit => k_exc)
    (case xk_NoVisit => k_is)
    (case xb_NoVisit => k_is)
    (case xt_NoVisit => k_is)
    (case eg_NoVisit => k_is)
    (case ek_NoVisit => k_is)
    (case ed_NoVisit => k_is)
    (case ea_NoVisit => k_is)
    (case em_NoVisit => k_is)
    (case xq_Late => k_exc)
    (case xk_Late => k_is)
    (case xb_Late => k_is)
    (case xt_Late => k_is)
    (case eg_Late => k_is)
    (case ek_Late => k_is)
    (case ed_Late => k_is)
    (case ea_Late => k_is)
    (case em_Late => k_is)
    (case xq_Full => k_exc)
    (case xk_Full => k_is)
    (case xb_Full => k_is)
    (case xt_Full => k_is)
    (case eg_Full => k_is)
    (case ek_Full => k_is)
    (case ed_Full => k_is)
    (case ea_Full => k_is)
    (case em_Full => k_is)
    (case xq_BadRow => k_exc)
    (case xk_BadRow => k_is)
    (case xb_BadRow => k_is)
    (case xt_BadRow => k_is)
    (case eg_BadRow => k_is)
    (case ek_BadRow => k_is)
    (case ed_BadRow => k_is)
    (case ea_BadRow => k_is)
    (case em_BadRow => k_is)
    (case ge_s => k_is)
    (case ge_r => k_is)
    (case ge_f => k_is)
    (case xl_Never => k_is)
    (case sa_Never => k_is)
    (case xb_Never => k_is)
    (case xt_Never => k_is)
    (case xk_Never => k_is)
    (case na_Never_place => k_is)
    (case eg_Never => k_is)
    (case ek_Never => k_is)
    (case ed_Never => k_is)
    (case ea_Never => k_is)
    (case em_Never => k_is)
    (case xl_Broken => k_is)
    (case sa_Broken => k_is)
    (case xb_Broken => k_is)
    (case xt_Broken => k_is)
    (case xk_Broken => k_is)
    (case na_Broken_k => k_is)
    (case na_Broken_stretch => k_is)
    (case eg_Broken => k_is)
    (case ek_Broken => k_is)
    (case ed_Broken => k_is)
    (case ea_Broken => k_is)
    (case em_Broken => k_is)
    (case kit_NoBound_GateError => kit_is)
    (case kit_NoMoment_GateError => kit_is)
    (case kit_NoCost_GateError => kit_is)
    (case kit_NoName_GateError => kit_is)
    (case kit_NoPlace_GateError => kit_is)
    (case kit_NoVisit_GateError => kit_is)
    (case kit_Late_GateError => kit_is)
    (case kit_Full_GateError => kit_is)
    (case kit_BadRow_GateError => kit_is)
    (case kit_Never_GateError => kit_is)
    (case kit_Broken_GateError => kit_is)
    (case kit_NoBound_ValueError => kit_is)
    (case kit_NoMoment_ValueError => kit_is)
    (case kit_NoCost_ValueError => kit_is)
    (case kit_NoName_ValueError => kit_is)
    (case kit_NoPlace_ValueError => kit_is)
    (case kit_NoVisit_ValueError => kit_is)
    (case kit_Late_ValueError => kit_is)
    (case kit_Full_ValueError => kit_is)
    (case kit_BadRow_ValueError => kit_is)
    (case kit_Never_ValueError => kit_is)
    (case kit_Broken_ValueError => kit_is)
    (case kit_NoBound_NoBound => kit_is)
    (case kit_NoBound_NoMoment => kit_is)
    (case kit_NoBound_NoCost => kit_is)
    (case kit_NoBound_NoName => kit_is)
    (case kit_NoBound_NoPlace => kit_is)
    (case kit_NoBound_NoVisit => kit_is)
    (case kit_NoBound_Late => kit_is)
    (case kit_NoBound_Full => kit_is)
    (case kit_NoBound_BadRow => kit_is)
    (case kit_NoBound_Never => kit_is)
    (case kit_NoBound_Broken => kit_is)
    (case kit_NoMoment_NoBound => kit_is)
    (case kit_NoMoment_NoMoment => kit_is)
    (case kit_NoMoment_NoCost => kit_is)
    (case kit_NoMoment_NoName => kit_is)
    (case kit_NoMoment_NoPlace => kit_is)
    (case kit_NoMoment_NoVisit => kit_is)
    (case kit_NoMoment_Late => kit_is)
    (case kit_NoMoment_Full => kit_is)
    (case kit_NoMoment_BadRow => kit_is)
    (case kit_NoMoment_Never => kit_is)
    (case kit_NoMoment_Broken => kit_is)
    (case kit_NoCost_NoBound => kit_is)
    (case kit_NoCost_NoMoment => kit_is)
    (case kit_NoCost_NoCost => kit_is)
    (case kit_NoCost_NoName => kit_is)
    (case kit_NoCost_NoPlace => kit_is)
    (case kit_NoCost_NoVisit => kit_is)
    (case kit_NoCost_Late => kit_is)
    (case kit_NoCost_Full => kit_is)
    (case kit_NoCost_BadRow => kit_is)
    (case kit_NoCost_Never => kit_is)
    (case kit_NoCost_Broken => kit_is)
    (case kit_NoName_NoBound => kit_is)
    (case kit_NoName_NoMoment => kit_is)
    (case kit_NoName_NoCost => kit_is)
    (case kit_NoName_NoName => kit_is)
    (case kit_NoName_NoPlace => kit_is)
    (case kit_NoName_NoVisit => kit_is)
    (case kit_NoName_Late => kit_is)
    (case kit_NoName_Full => kit_is)
    (case kit_NoName_BadRow => kit_is)
    (case kit_NoName_Never => kit_is)
    (case kit_NoName_Broken => kit_is)
    (case kit_NoPlace_NoBound => kit_is)
    (case kit_NoPlace_NoMoment => kit_is)
    (case kit_NoPlace_NoCost => kit_is)
    (case kit_NoPlace_NoName => kit_is)
    (case kit_NoPlace_NoPlace => kit_is)
    (case kit_NoPlace_NoVisit => kit_is)
    (case kit_NoPlace_Late => kit_is)
    (case kit_NoPlace_Full => kit_is)
    (case kit_NoPlace_BadRow => kit_is)
    (case kit_NoPlace_Never => kit_is)
    (case kit_NoPlace_Broken => kit_is)
    (case kit_NoVisit_NoBound => kit_is)
    (case kit_NoVisit_NoMoment => kit_is)
    (case kit_NoVisit_NoCost => kit_is)
    (case kit_NoVisit_NoName => kit_is)
    (case kit_NoVisit_NoPlace => kit_is)
    (case kit_NoVisit_NoVisit => kit_is)
    (case kit_NoVisit_Late => kit_is)
    (case kit_NoVisit_Full => kit_is)
    (case kit_NoVisit_BadRow => kit_is)
    (case kit_NoVisit_Never => kit_is)
    (case kit_NoVisit_Broken => kit_is)
    (case kit_Late_NoBound => kit_is)
    (case kit_Late_NoMoment => kit_is)
    (case kit_Late_NoCost => kit_is)
    (case kit_Late_NoName => kit_is)
    (case kit_Late_NoPlace => kit_is)
    (case kit_Late_NoVisit => kit_is)
    (case kit_Late_Late => kit_is)
    (case kit_Late_Full => kit_is)
    (case kit_Late_BadRow => kit_is)
    (case kit_Late_Never => kit_is)
    (case kit_Late_Broken => kit_is)
    (case kit_Full_NoBound => kit_is)
    (case kit_Full_NoMoment => kit_is)
    (case kit_Full_NoCost => kit_is)
    (case kit_Full_NoName => kit_is)
    (case kit_Full_NoPlace => kit_is)
    (case kit_Full_NoVisit => kit_is)
    (case kit_Full_Late => kit_is)
    (case kit_Full_Full => kit_is)
    (case kit_Full_BadRow => kit_is)
    (case kit_Full_Never => kit_is)
    (case kit_Full_Broken => kit_is)
    (case kit_BadRow_NoBound => kit_is)
    (case kit_BadRow_NoMoment => kit_is)
    (case kit_BadRow_NoCost => kit_is)
    (case kit_BadRow_NoName => kit_is)
    (case kit_BadRow_NoPlace => kit_is)
    (case kit_BadRow_NoVisit => kit_is)
    (case kit_BadRow_Late => kit_is)
    (case kit_BadRow_Full => kit_is)
    (case kit_BadRow_BadRow => kit_is)
    (case kit_BadRow_Never => kit_is)
    (case kit_BadRow_Broken => kit_is)
    (case kit_Never_NoBound => kit_is)
    (case kit_Never_NoMoment => kit_is)
    (case kit_Never_NoCost => kit_is)
    (case kit_Never_NoName => kit_is)
    (case kit_Never_NoPlace => kit_is)
    (case kit_Never_NoVisit => kit_is)
    (case kit_Never_Late => kit_is)
    (case kit_Never_Full => kit_is)
    (case kit_Never_BadRow => kit_is)
    (case kit_Never_Never => kit_is)
    (case kit_Never_Broken => kit_is)
    (case kit_Broken_NoBound => kit_is)
    (case kit_Broken_NoMoment => kit_is)
    (case kit_Broken_NoCost => kit_is)
    (case kit_Broken_NoName => kit_is)
    (case kit_Broken_NoPlace => kit_is)
    (case kit_Broken_NoVisit => kit_is)
    (case kit_Broken_Late => kit_is)
    (case kit_Broken_Full => kit_is)
    (case kit_Broken_BadRow => kit_is)
    (case kit_Broken_Never => kit_is)
    (case kit_Broken_Broken => kit_is)
    (case m_len => k_is)
    (case m_isinstance => k_is)
    (case m_range => k_is)
    (case m_ValueError => k_is)

