import PyProof.Rows.All
import Wide.All
import OpenK.AllK
import Wide.FinOn
import HandS.ForMost
import HandS.ForExc
import HandS.IsInst
import HandS.ExcIs
import HandS.Deep
import HandS.Flow
import HandS.Conv
import HandS.More
import HandS.CallSlots
import HandS.ExcValue
import HandS.TupAny
import HandS.Iter
import HandS.Defaults
import HandS.SetFor
import HandS.ExcInit
import HandS.SortKw
import HandS.OwnEq
import HandS.Strs
import HandS.SortInts
import HandS.Text
import HandS.Codes
import KE.KExcIs
import HandS.HotCalls
import HandS.RaiseMore
import PySem.Challenge.RW_turnstile_k12_whole_rows_played
set_option Elab.async false
set_option linter.all false
set_option maxRecDepth 100000
set_option maxHeartbeats 4000000
/-! ## The data layer: values as data (Dv), a store of mutable objects (M), what stands for what -/
namespace DL
open PySem PySem.Spec L2

inductive Dv where
  | non | bl (b : Bool) | int (i : Int) | str (x : Str) | ty (n : String) | obj (a : Addr)
  | tup (xs : List Dv) | lst (xs : List Dv) | fro (xs : List Dv)
  | ins (C : Addr) (fs : List (Str × Dv)) | exc (C : Addr) (fs : List (Str × Dv))
/-- a mutable object: an instance, a list, a dict; a dict that is walked -/
inductive MO where
  | ins (C : Addr) (fs : List (Str × Dv)) | lst (xs : List Dv) | dic (kvs : List (Key × Dv)) | fdc (kvs : List (Key × Dv))
abbrev M := Addr → Option MO
abbrev Kf := PySem.W.Frag
def updM (μ : M) (a : Addr) (o : MO) : M := fun b => if b = a then some o else μ b
def delM (μ : M) (a : Addr) : M := fun b => if b = a then none else μ b
theorem updM_same {μ : M} {a : Addr} {o : MO} : updM μ a o a = some o := by unfold updM; rw [if_pos rfl]
theorem updM_ne {μ : M} {a b : Addr} {o : MO} (h : b ≠ a) : updM μ a o b = μ b := by unfold updM; rw [if_neg h]
theorem updM_updM {μ : M} {a : Addr} {o u : MO} : updM (updM μ a o) a u = updM μ a u := by funext b; unfold updM; split <;> rfl
theorem delM_same {μ : M} {a : Addr} : delM μ a a = none := by unfold delM; rw [if_pos rfl]
theorem delM_ne {μ : M} {a b : Addr} (h : b ≠ a) : delM μ a b = μ b := by unfold delM; rw [if_neg h]
theorem delM_updM {μ : M} {a : Addr} {o : MO} (h : μ a = none) : delM (updM μ a o) a = μ := by
  funext b
  by_cases e : b = a
  · rw [e, delM_same, h]
  · rw [delM_ne e, updM_ne e]
theorem updM_comm {μ : M} {a b : Addr} {o u : MO} (h : a ≠ b) : updM (updM μ a o) b u = updM (updM μ b u) a o := by
  funext c
  by_cases e : c = a
  · subst e; rw [updM_ne h, updM_same, updM_same]
  · by_cases f : c = b
    · subst f; rw [updM_same, updM_ne e, updM_same]
    · rw [updM_ne f, updM_ne e, updM_ne e, updM_ne f]
theorem ne_ofM {μ : M} {a b : Addr} {o : MO} (h : μ a = some o) (h' : μ b = none) : a ≠ b := by intro e; subst e; rw [h] at h'; cases h'

/-- an exception object of the class cls (own dict d) at a -/
def ExD (cls : Value) (d : Option Addr) (a : Addr) : HO := .ext fun h => ∃ (oe : Obj) (vs : Array Value), h.get? a = some oe ∧ Zc cls d oe ∧ oe.data = .fields vs
/-- a list of the written part -/
def KLst (K : Kf) (a : Addr) (xs : List V) : Prop := ∃ (o : Obj) (its : Array Value) (n : Nat), K.lookup a = some o ∧ o.cls = .type "list" ∧ o.dict = none ∧ o.data = .seq its n ∧ its.size ≤ sizeLine ∧ Vals xs its.toList
mutual
inductive DRep (K : Kf) (μ : M) (H : Hp) : V → Dv → Prop where
  | non : DRep K μ H .non .non
  | bl (b : Bool) : DRep K μ H (.bl b) (.bl b)
  | int (i : Int) : DRep K μ H (.int i) (.int i)
  | str (x : Str) : DRep K μ H (.str x) (.str x)
  | ty (n : String) : DRep K μ H (.ty n) (.ty n)
  | obj (a : Addr) : DRep K μ H (.ref a) (.obj a)
  | tup {a : Addr} {vs : List V} {ds : List Dv} (h : H a = some (.tup vs)) (n : μ a = none) (r : DReps K μ H vs ds) : DRep K μ H (.ref a) (.tup ds)
  | lst {a : Addr} {vs : List V} {ds : List Dv} (h : H a = some (.lst vs)) (n : μ a = none) (r : DReps K μ H vs ds) : DRep K μ H (.ref a) (.lst ds)
  | fro {a : Addr} {vs : List V} {ds : List Dv} (h : Rd H a (.lst vs)) (n : μ a = none) (r : DReps K μ H vs ds) : DRep K μ H (.ref a) (.fro ds)
  | frk {a : Addr} {vs : List V} {ds : List Dv} (h : KLst K a vs) (r : DReps K μ H vs ds) : DRep K μ H (.ref a) (.fro ds)
  | ins {a C dx : Addr} {vs : List (Str × V)} {fs : List (Str × Dv)} (h : H a = some (.ins C dx vs)) (n : μ a = none) (r : DFlds K μ H vs fs) : DRep K μ H (.ref a) (.ins C fs)
  | exc0 {a C : Addr} (h : H a = some (ExD (.ref C) none a)) (n : μ a = none) : DRep K μ H (.ref a) (.exc C [])
  | exc1 {a C dd : Addr} {vs : List (Str × V)} {fs : List (Str × Dv)} (h : H a = some (ExD (.ref C) (some dd) a)) (n : μ a = none) (h2 : H dd = some (.xd vs)) (n2 : μ dd = none) (r : DFlds K μ H vs fs) : DRep K μ H (.ref a) (.exc C fs)
inductive DReps (K : Kf) (μ : M) (H : Hp) : List V → List Dv → Prop where
  | nil : DReps K μ H [] []
  | cons {v : V} {d : Dv} {vs : List V} {ds : List Dv} (h : DRep K μ H v d) (t : DReps K μ H vs ds) : DReps K μ H (v :: vs) (d :: ds)
inductive DFlds (K : Kf) (μ : M) (H : Hp) : List (Str × V) → List (Str × Dv) → Prop where
  | nil : DFlds K μ H [] []
  | cons {f : Str} {v : V} {d : Dv} {vs : List (Str × V)} {ds : List (Str × Dv)} (h : DRep K μ H v d) (t : DFlds K μ H vs ds) : DFlds K μ H ((f, v) :: vs) ((f, d) :: ds)
end
/-- a dict's pairs -/
inductive DKvs (K : Kf) (μ : M) (H : Hp) : List (Key × V) → List (Key × Dv) → Prop where
  | nil : DKvs K μ H [] []
  | cons {f : Key} {v : V} {d : Dv} {vs : List (Key × V)} {ds : List (Key × Dv)} (h : DRep K μ H v d) (t : DKvs K μ H vs ds) : DKvs K μ H ((f, v) :: vs) ((f, d) :: ds)

/-- what is not mutable stands -/
def Step0 (μ : M) (H : Hp) (μ' : M) (H' : Hp) : Prop := ∀ a o, H a = some o → μ a = none → H' a = some o ∧ μ' a = none
/-- and a locked dict stands -/
structure Step (μ : M) (H : Hp) (μ' : M) (H' : Hp) : Prop where
  d : Step0 μ H μ' H'
  l : ∀ a o kvs, H a = some o → μ a = some (.fdc kvs) → H' a = some o ∧ μ' a = some (.fdc kvs)
theorem Step.refl (μ : M) (H : Hp) : Step μ H μ H := ⟨fun _ _ h n => ⟨h, n⟩, fun _ _ _ h n => ⟨h, n⟩⟩
theorem Step.trans {μ μ1 μ2 : M} {H H1 H2 : Hp} (s : Step μ H μ1 H1) (t : Step μ1 H1 μ2 H2) : Step μ H μ2 H2 :=
  ⟨fun a o h n => let ⟨h1, n1⟩ := s.d a o h n; t.d a o h1 n1, fun a o kvs h n => let ⟨h1, n1⟩ := s.l a o kvs h n; t.l a o kvs h1 n1⟩
section
variable {K : Kf} {μ μ' : M} {H H' : Hp}
theorem rdStep0 (s : Step0 μ H μ' H') {a : Addr} {u : HO} (n : μ a = none) (h : Rd H a u) : Rd H' a u ∧ μ' a = none := by
  rcases h with h | ⟨o, h⟩
  · exact ⟨.inl (s _ _ h n).1, (s _ _ h n).2⟩
  · exact ⟨.inr ⟨o, (s _ _ h n).1⟩, (s _ _ h n).2⟩
mutual
theorem DRep.step0 (s : Step0 μ H μ' H') : ∀ {v : V} {d : Dv}, DRep K μ H v d → DRep K μ' H' v d
  | _, _, .non => .non
  | _, _, .bl b => .bl b
  | _, _, .int b => .int b
  | _, _, .str b => .str b
  | _, _, .ty b => .ty b
  | _, _, .obj b => .obj b
  | _, _, .tup h n r => .tup (s _ _ h n).1 (s _ _ h n).2 (DReps.step0 s r)
  | _, _, .lst h n r => .lst (s _ _ h n).1 (s _ _ h n).2 (DReps.step0 s r)
  | _, _, .fro h n r => .fro (rdStep0 s n h).1 (rdStep0 s n h).2 (DReps.step0 s r)
  | _, _, .frk h r => .frk h (DReps.step0 s r)
  | _, _, .ins h n r => .ins (s _ _ h n).1 (s _ _ h n).2 (DFlds.step0 s r)
  | _, _, .exc0 h n => .exc0 (s _ _ h n).1 (s _ _ h n).2
  | _, _, .exc1 h n h2 n2 r => .exc1 (s _ _ h n).1 (s _ _ h n).2 (s _ _ h2 n2).1 (s _ _ h2 n2).2 (DFlds.step0 s r)
theorem DReps.step0 (s : Step0 μ H μ' H') : ∀ {v : List V} {d : List Dv}, DReps K μ H v d → DReps K μ' H' v d
  | _, _, .nil => .nil
  | _, _, .cons h t => .cons (DRep.step0 s h) (DReps.step0 s t)
theorem DFlds.step0 (s : Step0 μ H μ' H') : ∀ {v : List (Str × V)} {d : List (Str × Dv)}, DFlds K μ H v d → DFlds K μ' H' v d
  | _, _, .nil => .nil
  | _, _, .cons h t => .cons (DRep.step0 s h) (DFlds.step0 s t)
end
theorem DKvs.step0 (s : Step0 μ H μ' H') : ∀ {v : List (Key × V)} {d : List (Key × Dv)}, DKvs K μ H v d → DKvs K μ' H' v d
  | _, _, .nil => .nil
  | _, _, .cons h t => .cons (DRep.step0 s h) (DKvs.step0 s t)

theorem DRep.step (s : Step μ H μ' H') {v : V} {d : Dv} (h : DRep K μ H v d) : DRep K μ' H' v d := DRep.step0 s.d h
theorem DReps.step (s : Step μ H μ' H') {v : List V} {d : List Dv} (h : DReps K μ H v d) : DReps K μ' H' v d := DReps.step0 s.d h
theorem DFlds.step (s : Step μ H μ' H') {v : List (Str × V)} {d : List (Str × Dv)} (h : DFlds K μ H v d) : DFlds K μ' H' v d := DFlds.step0 s.d h
theorem DKvs.step (s : Step μ H μ' H') {v : List (Key × V)} {d : List (Key × Dv)} (h : DKvs K μ H v d) : DKvs K μ' H' v d := DKvs.step0 s.d h

theorem DKvs.keys : ∀ {v : List (Key × V)} {d : List (Key × Dv)}, DKvs K μ H v d → v.map (·.1) = d.map (·.1)
  | _, _, .nil => rfl
  | _, _, .cons _ t => congrArg (_ :: ·) t.keys
/-! ### lists of data -/
theorem DReps.length : ∀ {vs : List V} {ds : List Dv}, DReps K μ H vs ds → vs.length = ds.length
  | _, _, .nil => rfl
  | _, _, .cons _ t => congrArg (· + 1) t.length
theorem DReps.append : ∀ {vs ws : List V} {ds es : List Dv}, DReps K μ H vs ds → DReps K μ H ws es → DReps K μ H (vs ++ ws) (ds ++ es)
  | _, _, _, _, .nil, q => q
  | _, _, _, _, .cons h t, q => .cons h (t.append q)
theorem DReps.one {v : V} {d : Dv} (h : DRep K μ H v d) : DReps K μ H [v] [d] := .cons h .nil
theorem DReps.get : ∀ {vs : List V} {ds : List Dv} {i : Nat} {d : Dv}, DReps K μ H vs ds → ds[i]? = some d → ∃ v, vs[i]? = some v ∧ DRep K μ H v d
  | _, _, _, _, .nil, e => by simp at e
  | _, _, 0, _, .cons h _, e => by simp at e; subst e; exact ⟨_, rfl, h⟩
  | _, _, i + 1, d, .cons _ t, e => by
    obtain ⟨v, h1, h2⟩ := DReps.get (i := i) (d := d) t (by simpa using e)
    exact ⟨v, by simpa using h1, h2⟩
theorem DReps.getV : ∀ {vs : List V} {ds : List Dv} {i : Nat} {v : V}, DReps K μ H vs ds → vs[i]? = some v → ∃ d, ds[i]? = some d ∧ DRep K μ H v d
  | _, _, _, _, .nil, e => by simp at e
  | _, _, 0, _, .cons h _, e => by simp at e; subst e; exact ⟨_, rfl, h⟩
  | _, _, i + 1, d, .cons _ t, e => by
    obtain ⟨v, h1, h2⟩ := DReps.getV (i := i) (v := d) t (by simpa using e)
    exact ⟨v, by simpa using h1, h2⟩
theorem DReps.take : ∀ {vs : List V} {ds : List Dv} (n : Nat), DReps K μ H vs ds → DReps K μ H (vs.take n) (ds.take n)
  | _, _, 0, _ => .nil
  | _, _, _ + 1, .nil => .nil
  | _, _, n + 1, .cons h t => .cons h (DReps.take n t)
theorem DReps.drop : ∀ {vs : List V} {ds : List Dv} (n : Nat), DReps K μ H vs ds → DReps K μ H (vs.drop n) (ds.drop n)
  | _, _, 0, r => r
  | _, _, _ + 1, .nil => .nil
  | _, _, n + 1, .cons _ t => DReps.drop n t
theorem DReps.reverse : ∀ {vs : List V} {ds : List Dv}, DReps K μ H vs ds → DReps K μ H vs.reverse ds.reverse
  | _, _, .nil => .nil
  | _, _, .cons h t => by
    rw [List.reverse_cons, List.reverse_cons]
    exact t.reverse.append (.one h)
theorem DReps.dropLast {vs : List V} {ds : List Dv} (r : DReps K μ H vs ds) : DReps K μ H vs.dropLast ds.dropLast := by
  rw [List.dropLast_eq_take, List.dropLast_eq_take, r.length]
  exact r.take _
theorem DReps.replicate {v : V} {d : Dv} (h : DRep K μ H v d) : ∀ n, DReps K μ H (List.replicate n v) (List.replicate n d)
  | 0 => .nil
  | n + 1 => .cons h (DReps.replicate h n)
theorem DReps.ints : ∀ {vs : List V} {ns : List Int}, DReps K μ H vs (ns.map Dv.int) → vs = ns.map V.int
  | _, [], .nil => rfl
  | _, n :: ns, .cons h t => by
    cases h
    rw [t.ints]
    rfl
theorem DReps.strs : ∀ {vs : List V} {ns : List Str}, DReps K μ H vs (ns.map Dv.str) → vs = ns.map V.str
  | _, [], .nil => rfl
  | _, n :: ns, .cons h t => by
    cases h
    rw [t.strs]
    rfl
theorem DReps.bls : ∀ {vs : List V} {ns : List Bool}, DReps K μ H vs (ns.map Dv.bl) → vs = ns.map V.bl
  | _, [], .nil => rfl
  | _, n :: ns, .cons h t => by
    cases h
    rw [t.bls]
    rfl
theorem DReps.ofInts : ∀ ns : List Int, DReps K μ H (ns.map V.int) (ns.map Dv.int)
  | [] => .nil
  | _ :: ns => .cons (.int _) (DReps.ofInts ns)
theorem DReps.ofStrs : ∀ ns : List Str, DReps K μ H (ns.map V.str) (ns.map Dv.str)
  | [] => .nil
  | _ :: ns => .cons (.str _) (DReps.ofStrs ns)
theorem DReps.ofBls : ∀ ns : List Bool, DReps K μ H (ns.map V.bl) (ns.map Dv.bl)
  | [] => .nil
  | _ :: ns => .cons (.bl _) (DReps.ofBls ns)

/-! ### fields -/
def putD (f : Str) (v : Dv) : List (Str × Dv) → List (Str × Dv)
  | [] => [(f, v)]
  | (g, x) :: r => if g = f then (g, v) :: r else (g, x) :: putD f v r
theorem DFlds.length : ∀ {vs : List (Str × V)} {ds : List (Str × Dv)}, DFlds K μ H vs ds → vs.length = ds.length
  | _, _, .nil => rfl
  | _, _, .cons _ t => congrArg (· + 1) t.length
theorem DFlds.put {f : Str} {v : V} {d : Dv} (h : DRep K μ H v d) : ∀ {vs : List (Str × V)} {ds : List (Str × Dv)}, DFlds K μ H vs ds → DFlds K μ H (putF f v vs) (putD f d ds)
  | _, _, .nil => .cons h .nil
  | _, _, @DFlds.cons _ _ _ g x y vs ds hx t => by
    show DFlds K μ H (if g = f then (g, v) :: vs else (g, x) :: putF f v vs) (if g = f then (g, d) :: ds else (g, y) :: putD f d ds)
    by_cases e : g = f
    · rw [if_pos e, if_pos e]; exact .cons h t
    · rw [if_neg e, if_neg e]; exact .cons hx (t.put h)
theorem DFlds.get {f : Str} {d : Dv} : ∀ {vs : List (Str × V)} {ds : List (Str × Dv)}, DFlds K μ H vs ds → ds.lookup f = some d → ∃ v, vs.lookup f = some v ∧ DRep K μ H v d
  | _, _, .nil, e => by cases e
  | _, _, @DFlds.cons _ _ _ g x y vs ds hx t, e => by
    rw [List.lookup_cons] at e ⊢
    cases hb : f == g with
    | true =>
      rw [hb] at e
      cases e
      exact ⟨x, rfl, hx⟩
    | false =>
      rw [hb] at e
      exact t.get e
theorem DFlds.none {f : Str} : ∀ {vs : List (Str × V)} {ds : List (Str × Dv)}, DFlds K μ H vs ds → ds.lookup f = Option.none → vs.lookup f = Option.none
  | _, _, .nil, _ => rfl
  | _, _, @DFlds.cons _ _ _ g x y vs ds hx t, e => by
    rw [List.lookup_cons] at e ⊢
    cases hb : f == g with
    | true => rw [hb] at e; cases e
    | false =>
      rw [hb] at e
      exact t.none e

/-! ### the store -/
def MRep (K : Kf) (μ : M) (H : Hp) (a : Addr) : MO → Prop
  | .ins C fs => ∃ dx vs, H a = some (.ins C dx vs) ∧ DFlds K μ H vs fs
  | .lst ds => ∃ vs, H a = some (.lst vs) ∧ DReps K μ H vs ds
  | .dic kvs => ∃ vs, H a = some (.dK vs) ∧ DKvs K μ H vs kvs
  | .fdc kvs => ∃ o vs, H a = some (.frz o (.dK vs)) ∧ DKvs K μ H vs kvs
def Rep (K : Kf) (μ : M) (H : Hp) : Prop := ∀ a o, μ a = some o → MRep K μ H a o
theorem MRep.tracked {a : Addr} {o : MO} (h : MRep K μ H a o) : H a ≠ Option.none := by
  cases o with
  | ins C fs => obtain ⟨_, _, e, _⟩ := h; rw [e]; simp
  | lst ds => obtain ⟨_, e, _⟩ := h; rw [e]; simp
  | dic ds => obtain ⟨_, e, _⟩ := h; rw [e]; simp
  | fdc ds => obtain ⟨_, _, e, _⟩ := h; rw [e]; simp
theorem Rep.free (r : Rep K μ H) {a : Addr} (h : H a = Option.none) : μ a = Option.none := by
  cases e : μ a with
  | none => rfl
  | some o => exact absurd h (r a o e).tracked
/-- the object itself stands, all that is not mutable stands -/
theorem MRep.step0 (s : Step0 μ H μ' H') {a : Addr} {o : MO} (ha : H' a = H a) (h : MRep K μ H a o) : MRep K μ' H' a o := by
  cases o with
  | ins C fs => obtain ⟨dx, vs, e, r⟩ := h; exact ⟨dx, vs, ha.trans e, DFlds.step0 s r⟩
  | lst ds => obtain ⟨vs, e, r⟩ := h; exact ⟨vs, ha.trans e, DReps.step0 s r⟩
  | dic ds => obtain ⟨vs, e, r⟩ := h; exact ⟨vs, ha.trans e, DKvs.step0 s r⟩
  | fdc ds => obtain ⟨o, vs, e, r⟩ := h; exact ⟨o, vs, ha.trans e, DKvs.step0 s r⟩
theorem MRep.step (s : Step μ H μ' H') {a : Addr} {o : MO} (ha : H' a = H a) (h : MRep K μ H a o) : MRep K μ' H' a o := MRep.step0 s.d ha h
/-- a new object that is data -/
theorem Step.new {p : Addr} {o : HO} (h : H p = Option.none) : Step μ H μ (upd H p o) := ⟨fun a u e n => ⟨by rw [upd_ne (ne_of_none e h)]; exact e, n⟩, fun a u _ e n => ⟨by rw [upd_ne (ne_of_none e h)]; exact e, n⟩⟩
theorem Rep.new {p : Addr} {o : HO} (r : Rep K μ H) (h : H p = Option.none) : Rep K μ (upd H p o) := fun a u e =>
  (r a u e).step (Step.new h) (upd_ne (by intro z; subst z; exact (r a u e).tracked h))
/-- a new mutable object -/
theorem Step.newM {p : Addr} {o : HO} {u : MO} (h : H p = Option.none) : Step μ H (updM μ p u) (upd H p o) :=
  ⟨fun a v e n => ⟨by rw [upd_ne (ne_of_none e h)]; exact e, by rw [updM_ne (ne_of_none e h)]; exact n⟩,
    fun a v _ e n => ⟨by rw [upd_ne (ne_of_none e h)]; exact e, by rw [updM_ne (ne_of_none e h)]; exact n⟩⟩
theorem Rep.put {p : Addr} {o : HO} {u : MO} (r : Rep K μ H) (s : Step μ H (updM μ p u) (upd H p o)) (new : MRep K (updM μ p u) (upd H p o) p u) : Rep K (updM μ p u) (upd H p o) := fun a v e => by
  by_cases z : a = p
  · subst z
    rw [updM_same] at e
    cases e
    exact new
  · rw [updM_ne z] at e
    exact (r a v e).step s (upd_ne z)
/-- a mutable object is changed -/
theorem Step.mut {p : Addr} {o : HO} {u v : MO} (h : μ p = some v) (hv : ∀ k, v ≠ .fdc k := by intro k z; cases z) : Step μ H (updM μ p u) (upd H p o) :=
  ⟨fun a w e n =>
    have z : a ≠ p := fun z => by rw [z, h] at n; cases n
    ⟨by rw [upd_ne z]; exact e, by rw [updM_ne z]; exact n⟩, fun a w k e n =>
    have z : a ≠ p := fun z => by rw [z, h] at n; exact hv k (Option.some.inj n)
    ⟨by rw [upd_ne z]; exact e, by rw [updM_ne z]; exact n⟩⟩
/-- a mutable object becomes data -/
theorem Step.freeze {p : Addr} {v : MO} (h : μ p = some v) (hv : ∀ k, v ≠ .fdc k := by intro k z; cases z) : Step μ H (delM μ p) H := ⟨fun a w e n => ⟨e, by
    by_cases z : a = p
    · rw [z, delM_same]
    · rw [delM_ne z]; exact n⟩, fun a w k e n => ⟨e, by
    have z : a ≠ p := fun z => by rw [z, h] at n; exact hv k (Option.some.inj n)
    rw [delM_ne z]; exact n⟩⟩
theorem Rep.freeze {p : Addr} {w : MO} (r : Rep K μ H) (h : μ p = some w) (hv : ∀ k, w ≠ .fdc k := by intro k z; cases z) : Rep K (delM μ p) H := fun a v e => by
  by_cases z : a = p
  · subst z; rw [delM_same] at e; cases e
  · rw [delM_ne z] at e
    exact (r a v e).step (Step.freeze h hv) rfl

/-! ### the names -/
abbrev En := List (Option Dv)
def Env (K : Kf) (μ : M) (H : Hp) (σ : St) (e : En) : Prop := σ.length = e.length ∧ ∀ (i : Nat) (d : Dv), e[i]? = some (some d) → ∃ v, σ[i]? = some (some v) ∧ DRep K μ H v d
theorem Env.step {σ : St} {e : En} (s : Step μ H μ' H') (h : Env K μ H σ e) : Env K μ' H' σ e := ⟨h.1, fun i d q => let ⟨v, a, b⟩ := h.2 i d q; ⟨v, a, b.step s⟩⟩
theorem Env.set {σ : St} {e : En} {v : V} {d : Dv} (h : Env K μ H σ e) (r : DRep K μ H v d) (i : Nat) : Env K μ H (σ.set i (some v)) (e.set i (some d)) := by
  refine ⟨by rw [List.length_set, List.length_set]; exact h.1, fun j x q => ?_⟩
  by_cases z : i = j
  · subst z
    by_cases hl : i < e.length
    · rw [List.getElem?_set_self hl] at q
      cases q
      exact ⟨v, List.getElem?_set_self (by rw [h.1]; exact hl), r⟩
    · rw [List.getElem?_eq_none (by rw [List.length_set]; omega)] at q
      cases q
  · rw [List.getElem?_set_ne z] at q ⊢
    exact h.2 j x q
/-- a name forgotten -/
theorem Env.unset {σ : St} {e : En} (h : Env K μ H σ e) (o : Option V) (i : Nat) : Env K μ H (σ.set i o) (e.set i Option.none) := by
  refine ⟨by rw [List.length_set, List.length_set]; exact h.1, fun j x q => ?_⟩
  by_cases z : i = j
  · subst z
    by_cases hl : i < e.length
    · rw [List.getElem?_set_self hl] at q
      cases q
    · rw [List.getElem?_eq_none (by rw [List.length_set]; omega)] at q
      cases q
  · rw [List.getElem?_set_ne z] at q ⊢
    exact h.2 j x q
def wipeE (e : En) : List Nat → En
  | [] => e
  | v :: vs => (wipeE e vs).set v Option.none
theorem Env.wipe {σ : St} {e : En} (h : Env K μ H σ e) : ∀ vs : List Nat, Env K μ H (wipe σ vs) (wipeE e vs)
  | [] => h
  | v :: vs => (h.wipe vs).unset _ v
/-- less is told -/
def LeE (e e' : En) : Prop := e.length = e'.length ∧ ∀ (i : Nat) (d : Dv), e'[i]? = some (some d) → e[i]? = some (some d)
theorem Env.le {σ : St} {e e' : En} (h : Env K μ H σ e) (l : LeE e e') : Env K μ H σ e' := ⟨h.1.trans l.1, fun i d q => h.2 i d (l.2 i d q)⟩
theorem Env.start : ∀ {vs : List V} {ds : List Dv} (n : Nat), DReps K μ H vs ds → Env K μ H (vs.map some ++ List.replicate n Option.none) (ds.map some ++ List.replicate n Option.none) := fun {vs ds} n r => by
  refine ⟨by simp [r.length], fun i d q => ?_⟩
  by_cases z : i < ds.length
  · rw [List.getElem?_append_left (by simpa using z), List.getElem?_map] at q
    cases e : ds[i]? with
    | none => rw [e] at q; cases q
    | some x =>
      rw [e] at q
      cases q
      obtain ⟨v, h1, h2⟩ := r.get e
      refine ⟨v, ?_, h2⟩
      rw [List.getElem?_append_left (by simpa [r.length] using z), List.getElem?_map, h1]
      rfl
  · rw [List.getElem?_append_right (by simpa using z), List.getElem?_replicate] at q
    split at q <;> cases q

/-! ### exceptions as data -/
def XRep (K : Kf) (μ : M) (H : Hp) (d : Option Addr) (fs : List (Str × Dv)) : Prop := match d with
  | none => fs = []
  | some dd => ∃ vs, H dd = some (.xd vs) ∧ μ dd = Option.none ∧ DFlds K μ H vs fs
theorem XRep.step {d : Option Addr} {fs : List (Str × Dv)} (s : Step μ H μ' H') (h : XRep K μ H d fs) : XRep K μ' H' d fs := by
  cases d with
  | none => exact h
  | some dd => obtain ⟨vs, e, n, r⟩ := h; exact ⟨vs, (s.d _ _ e n).1, (s.d _ _ e n).2, r.step s⟩
abbrev DK := Dv → M → Prop
abbrev XD := Value → List (Str × Dv) → En → M → Prop
/-- what is wished of an exception, told by data -/
def Thr (K : Kf) (W : WX) (KE : XD) (μ : M) (H : Hp) : Prop := ∀ cls fs d σ' e' H' μ', KE cls fs e' μ' → Env K μ' H' σ' e' → Step μ H μ' H' → Rep K μ' H' → XRep K μ' H' d fs → W cls d σ' H'
theorem Thr.step {W : WX} {KE : XD} (s : Step μ H μ' H') (h : Thr K W KE μ H) : Thr K W KE μ' H' := fun cls fs d σ' e' H2 μ2 a b c => h cls fs d σ' e' H2 μ2 a b (s.trans c)
end
end DL

/-! ## Judgements over data; expressions -/
namespace DL
open PySem PySem.Spec L2
def cE (X : Cx) (e : Expr) : TE := fun σ H Q => ∀ (pins : List (Addr × Obj)) (s : Shared), Inv X pins σ H s → wpAny (model X.prog X.w) X.A (eval e X.env) (EP X pins σ Q) X.xe s
theorem peC {X : Cx} {e : Expr} : PE X e (cE X e) := ⟨fun pins s _ _ _ I h => h pins s I⟩
def cT (X : Cx) (e : Expr) : TT := fun σ H Q => ∀ (pins : List (Addr × Obj)) (s : Shared), Inv X pins σ H s → wpAny (model X.prog X.w) X.A (isTrue e X.env (eval e X.env)) (TP X pins σ Q) X.xe s
theorem ptC {X : Cx} {e : Expr} : PT X e (cT X e) := ⟨fun pins s _ _ _ I h => h pins s I⟩
def cW (X : Cx) (e : Expr) : TT := fun σ H Q => ∀ (whole : Sem Value) (pins : List (Addr × Obj)) (s : Shared), Inv X pins σ H s → wpAny (model X.prog X.w) X.A (isTrue e X.env whole) (TP X pins σ Q) X.xe s
theorem pwC {X : Cx} {e : Expr} : PW X e (cW X e) := ⟨fun w pins s _ _ _ I h => h w pins s I⟩
def cA (X : Cx) (es : List Expr) : TA := fun σ H Q => ∀ (pos : Pos) (pins : List (Addr × Obj)) (s : Shared), Inv X pins σ H s → wpAny (model X.prog X.w) X.A (spliced (backTo pos (starEach es X.env))) (AP X pins σ Q) X.xe s
theorem paC {X : Cx} {es : List Expr} : PA X es (cA X es) := ⟨fun pos pins s _ _ _ I h => h pos pins s I⟩
def cS (X : Cx) (st : Stmt) : TS := fun D σ H => ∀ (pins : List (Addr × Obj)) (s : Shared), Inv X pins σ H s → wpAny (model X.prog X.w) X.A (exec st X.env) (SP X pins D) X.xe s
theorem psC {X : Cx} {st : Stmt} : PS X st (cS X st) := ⟨fun pins s _ _ _ I h => h pins s I⟩
def cB (X : Cx) (st : List Stmt) : TS := fun D σ H => ∀ (pins : List (Addr × Obj)) (s : Shared), Inv X pins σ H s → wpAny (model X.prog X.w) X.A (execs st X.env) (SP X pins D) X.xe s
theorem pbC {X : Cx} {st : List Stmt} : PSs X st (cB X st) := ⟨fun pins s _ _ _ I h => h pins s I⟩

structure Cok (k : Nat) (X : Cx) (W : WX) : Prop where
  room : Room k X.A
  calm : X.calm = true
  tk : Takes X W
  nd : X.N.Nodup

/-- from k to Q -/
def Tl (K : Kf) (μ : M) (H : Hp) (k : DK) (Q : VK) : Prop := ∀ v d H' μ', k d μ' → Step μ H μ' H' → Rep K μ' H' → DRep K μ' H' v d → Q v H'
def TlB (K : Kf) (μ : M) (H : Hp) (k : Bool → M → Prop) (Q : Bool → Hp → Prop) : Prop := ∀ b H' μ', k b μ' → Step μ H μ' H' → Rep K μ' H' → Q b H'
def TlA (K : Kf) (μ : M) (H : Hp) (k : List Dv → M → Prop) (Q : List V → Hp → Prop) : Prop := ∀ v d H' μ', k d μ' → Step μ H μ' H' → Rep K μ' H' → DReps K μ' H' v d → Q v H'
theorem Tl.step {K : Kf} {μ μ1 : M} {H H1 : Hp} {k : DK} {Q : VK} (s : Step μ H μ1 H1) (h : Tl K μ H k Q) : Tl K μ1 H1 k Q := fun v d H' μ' a b c => h v d H' μ' a (s.trans b) c
theorem TlB.step {K : Kf} {μ μ1 : M} {H H1 : Hp} {k : Bool → M → Prop} {Q : Bool → Hp → Prop} (s : Step μ H μ1 H1) (h : TlB K μ H k Q) : TlB K μ1 H1 k Q := fun v H' μ' a b c => h v H' μ' a (s.trans b) c
theorem TlA.step {K : Kf} {μ μ1 : M} {H H1 : Hp} {k : List Dv → M → Prop} {Q : List V → Hp → Prop} (s : Step μ H μ1 H1) (h : TlA K μ H k Q) : TlA K μ1 H1 k Q := fun v d H' μ' a b c => h v d H' μ' a (s.trans b) c
section
variable (X : Cx) (W : WX) (KE : XD)
def JE (e : Expr) (n : En) (μ : M) (k : DK) : Prop := ∀ (σ : L2.St) (H : Hp) (Q : VK), Env X.K μ H σ n → Rep X.K μ H → Thr X.K W KE μ H → Tl X.K μ H k Q → cE X e σ H Q
def JT (e : Expr) (n : En) (μ : M) (k : Bool → M → Prop) : Prop := ∀ (σ : L2.St) (H : Hp) (Q : Bool → Hp → Prop), Env X.K μ H σ n → Rep X.K μ H → Thr X.K W KE μ H → TlB X.K μ H k Q → cT X e σ H Q
def JW (e : Expr) (n : En) (μ : M) (k : Bool → M → Prop) : Prop := ∀ (σ : L2.St) (H : Hp) (Q : Bool → Hp → Prop), Env X.K μ H σ n → Rep X.K μ H → Thr X.K W KE μ H → TlB X.K μ H k Q → cW X e σ H Q
def JA (es : List Expr) (n : En) (μ : M) (k : List Dv → M → Prop) : Prop := ∀ (σ : L2.St) (H : Hp) (Q : List V → Hp → Prop), Env X.K μ H σ n → Rep X.K μ H → Thr X.K W KE μ H → TlA X.K μ H k Q → cA X es σ H Q
end
/-- an operation on data -/
def DOp (K : Kf) (r : R2) (x y : Dv) (μ : M) (k : DK) : Prop := ∀ u v H Q, Rep K μ H → DRep K μ H u x → DRep K μ H v y → Tl K μ H k Q → r u v H Q
def DUn (K : Kf) (r : V → Hp → VK → Prop) (x : Dv) (μ : M) (k : DK) : Prop := ∀ u H Q, Rep K μ H → DRep K μ H u x → Tl K μ H k Q → r u H Q
def DCl (K : Kf) (r : List V → Hp → VK → Prop) (xs : List Dv) (μ : M) (k : DK) : Prop := ∀ us H Q, Rep K μ H → DReps K μ H us xs → Tl K μ H k Q → r us H Q
section
variable {X : Cx} {W : WX} {KE : XD} {e a b c : Expr} {es rest : List Expr} {n : En} {μ : M} {k : DK} {pos p : Pos} {x : Str} {K : Kf}
theorem je_of {t : TE} (h : PE X e t) (q : ∀ (σ : L2.St) (H : Hp) (Q : VK), Env X.K μ H σ n → Rep X.K μ H → Thr X.K W KE μ H → Tl X.K μ H k Q → t σ H Q) : JE X W KE e n μ k := fun σ H Q a b c d pins s I => h.run pins s σ H Q I (q σ H Q a b c d)
theorem jt_of {k : Bool → M → Prop} {t : TT} (h : PT X e t) (q : ∀ (σ : L2.St) (H : Hp) (Q : Bool → Hp → Prop), Env X.K μ H σ n → Rep X.K μ H → Thr X.K W KE μ H → TlB X.K μ H k Q → t σ H Q) : JT X W KE e n μ k := fun σ H Q a b c d pins s I => h.run pins s σ H Q I (q σ H Q a b c d)
theorem jw_of {k : Bool → M → Prop} {t : TT} (h : PW X e t) (q : ∀ (σ : L2.St) (H : Hp) (Q : Bool → Hp → Prop), Env X.K μ H σ n → Rep X.K μ H → Thr X.K W KE μ H → TlB X.K μ H k Q → t σ H Q) : JW X W KE e n μ k := fun σ H Q a b c d w pins s I => h.run w pins s σ H Q I (q σ H Q a b c d)
theorem JE.mono {k' : DK} (h : JE X W KE e n μ k) (q : ∀ d μ', k d μ' → k' d μ') : JE X W KE e n μ k' := fun σ H Q a b c d => h σ H Q a b c fun v d' H' μ' z => d v d' H' μ' (q _ _ z)
theorem JT.mono {k k' : Bool → M → Prop} (h : JT X W KE e n μ k) (q : ∀ d μ', k d μ' → k' d μ') : JT X W KE e n μ k' := fun σ H Q a b c d => h σ H Q a b c fun v H' μ' z => d v H' μ' (q _ _ z)
/-- the end of a pure thing -/
theorem tl_pure {H : Hp} {Q : VK} {u : V} {d : Dv} (t : Tl K μ H k Q) (h : k d μ) (r : Rep K μ H) (q : DRep K μ H u d) : Q u H := t u d H μ h (Step.refl μ H) r q
/-- a new object that is data -/
theorem tl_new {H : Hp} {Q : VK} {p : Addr} {o : HO} {d : Dv} (t : Tl K μ H k Q) (h : k d μ) (r : Rep K μ H) (hp : H p = none) (q : DRep K μ (upd H p o) (.ref p) d) : Q (.ref p) (upd H p o) := t _ d _ μ h (Step.new hp) (r.new hp) q

/-! ### names, constants -/
theorem je_name (i : Nat) {d : Dv} (hN : X.N[i]? = some x) (hn : n[i]? = some (some d)) (h : k d μ) (hv : Vis X.env.scope x := by first | exact Or.inl rfl | exact Or.inr (Or.inl rfl) | exact Or.inr (Or.inr rfl)) (hd : (x == ("__debug__" : Str)) = false := by decide)
    (hcd : (x == ("__classdict__" : Str)) = false := by decide) : JE X W KE (.Name x p) n μ k := je_of (pe_var hN hv hd hcd) fun σ H Q ev r t q => by
  obtain ⟨v, h1, h2⟩ := ev.2 i d hn
  exact ⟨v, h1, tl_pure q h r h2⟩
theorem je_int {i : Int} {j : Nat} (h : k (.int i) μ) : JE X W KE (.Constant (.int i) j pos) n μ k := je_of pe_int fun σ H Q ev r t q => tl_pure q h r (.int i)
theorem je_bl {i : Bool} {j : Nat} (h : k (.bl i) μ) : JE X W KE (.Constant (.bool i) j pos) n μ k := je_of pe_bl fun σ H Q ev r t q => tl_pure q h r (.bl i)
theorem je_non {j : Nat} (h : k .non μ) : JE X W KE (.Constant .none j pos) n μ k := je_of pe_non fun σ H Q ev r t q => tl_pure q h r .non
theorem je_str {z : Str} {j : Nat} (h : k (.str z) μ) : JE X W KE (.Constant (.str z) j pos) n μ k := je_of pe_str fun σ H Q ev r t q => tl_pure q h r (.str z)
/-- a module's constant that needs no heap -/
inductive CRel : Dv → V → Prop where
  | int (i : Int) : CRel (.int i) (.int i)
  | str (x : Str) : CRel (.str x) (.str x)
  | obj (a : Addr) : CRel (.obj a) (.ref a)
  | ty (n : String) : CRel (.ty n) (.ty n)
  | non : CRel .non .non
  | bl (b : Bool) : CRel (.bl b) (.bl b)
theorem CRel.rep {d : Dv} {v : V} {H : Hp} (c : CRel d v) : DRep K μ H v d := by
  cases c <;> constructor
/-- what the module's name x holds, as data -/
def Gv (mg : Str → Option Value) (x : Str) (d : Dv) : Prop := ∃ u v, mg x = some u ∧ RelV v u ∧ CRel d v
theorem je_glob {d : Dv} (g : Gv X.mg x d) (h : k d μ) (hg : Gl X x := by rfl) (hd : (x == ("__debug__" : Str)) = false := by decide) : JE X W KE (.Name x p) n μ k := by
  obtain ⟨u, v, h1, h2, h3⟩ := g
  exact je_of (pe_glob hg h1 h2 hd) fun σ H Q ev r t q => tl_pure q h r h3.rep
theorem je_bty {T : String} (hm : X.mg x = none) (hv : bootBuiltins x = some (.type T)) (h : k (.ty T) μ) (hg : Gl X x := by rfl) (hn : x ≠ "__name__" := by decide) (hd : (x == ("__debug__" : Str)) = false := by decide) : JE X W KE (.Name x p) n μ k :=
  je_of (pe_bltn hg hm hv (v := .ty T) rfl hn hd) fun σ H Q ev r t q => tl_pure q h r (.ty T)

/-! ### operators -/
theorem je_bin {op : Operator} {r : R2} (ho : OpR X (binaryOp op) r) (h : JE X W KE a n μ fun x μ1 => JE X W KE b n μ1 fun y μ2 => DOp X.K r x y μ2 k) : JE X W KE (.BinOp a op b pos) n μ k :=
  je_of (pe_op ho peC peC) fun σ H Q ev rp t q => by
    refine h σ H _ ev rp t fun u x H1 μ1 h1 s1 r1 d1 => ?_
    refine h1 σ H1 _ (ev.step s1) r1 (t.step s1) fun v y H2 μ2 h2 s2 r2 d2 => ?_
    exact h2 u v H2 Q r2 (d1.step s2) d2 (q.step (s1.trans s2))
theorem je_un {op : UnaryOp} {r : V → Hp → VK → Prop} (ho : UnR X (unaryOp op) r) (h : JE X W KE a n μ fun x μ1 => DUn X.K r x μ1 k) : JE X W KE (.UnaryOp op a pos) n μ k :=
  je_of (pe_un ho peC) fun σ H Q ev rp t q => by
    refine h σ H _ ev rp t fun u x H1 μ1 h1 s1 r1 d1 => ?_
    exact h1 u H1 Q r1 d1 (q.step s1)
theorem je_cmp {op : CmpOp} {r : R2} (ho : OpR X (compareOp op) r) (hm : behindInMarks op b = false) (h : JE X W KE a n μ fun x μ1 => JE X W KE b n μ1 fun y μ2 => DOp X.K r x y μ2 k) : JE X W KE (.Compare a [op] [b] pos) n μ k :=
  je_of (pe_cmpR ho peC peC hm) fun σ H Q ev rp t q => by
    refine h σ H _ ev rp t fun u x H1 μ1 h1 s1 r1 d1 => ?_
    refine h1 σ H1 _ (ev.step s1) r1 (t.step s1) fun v y H2 μ2 h2 s2 r2 d2 => ?_
    exact h2 u v H2 Q r2 (d1.step s2) d2 (q.step (s1.trans s2))
/-- a op b op' c -/
theorem je_chain {op op' : CmpOp} {r r' : R2} (ho : OpR X (compareOp op) r) (ho' : OpR X (compareOp op') r')
    (h : JE X W KE a n μ fun x μ1 => JE X W KE b n μ1 fun y μ2 => DOp X.K r x y μ2 fun z μ3 => ∃ b, z = .bl b ∧ (b = true → JE X W KE c n μ3 fun w μ4 => DOp X.K r' y w μ4 k) ∧ (b = false → k (.bl false) μ3))
    (hm : lastMarks [op, op'] [b, c] = false := by with_unfolding_all rfl) : JE X W KE (.Compare a [op, op'] [b, c] pos) n μ k :=
  je_of (pe_chain ho ho' peC peC peC hm) fun σ H Q ev rp t q => by
    refine h σ H _ ev rp t fun u x H1 μ1 h1 s1 r1 d1 => ?_
    refine h1 σ H1 _ (ev.step s1) r1 (t.step s1) fun v y H2 μ2 h2 s2 r2 d2 => ?_
    refine h2 u v H2 _ r2 (d1.step s2) d2 fun z d3 H3 μ3 h3 s3 r3 d3' => ?_
    obtain ⟨b, rfl, ht, hf⟩ := h3
    cases d3'
    refine ⟨b, rfl, ?_⟩
    have s13 := (s1.trans s2).trans s3
    cases b with
    | true =>
      rw [if_pos rfl]
      refine ht rfl σ H3 _ (ev.step s13) r3 (t.step s13) fun w y4 H4 μ4 h4 s4 r4 d4 => ?_
      exact h4 v w H4 Q r4 (d2.step (s3.trans s4)) d4 (q.step (s13.trans s4))
    | false =>
      rw [if_neg Bool.false_ne_true]
      exact tl_pure (q.step s13) (hf rfl) r3 (.bl false)
/-- a and b, a or b, not a, a if t else b, as values -/
theorem je_one {op : BoolOp} (h : JE X W KE a n μ k) : JE X W KE (.BoolOp op [a] pos) n μ k := je_of (pe_one peC) fun σ H Q ev rp t q => h σ H Q ev rp t q
theorem je_and (h : JE X W KE a n μ fun x μ1 => ∃ c, x = .bl c ∧ (c = true → JE X W KE (.BoolOp .And (b :: rest) pos) n μ1 k) ∧ (c = false → k (.bl false) μ1)) : JE X W KE (.BoolOp .And (a :: b :: rest) pos) n μ k :=
  je_of (pe_and peC peC) fun σ H Q ev rp t q => by
    refine h σ H _ ev rp t fun u x H1 μ1 h1 s1 r1 d1 => ?_
    obtain ⟨c, rfl, ht, hf⟩ := h1
    cases d1
    refine ⟨c, rfl, ?_⟩
    cases c with
    | true => rw [if_pos rfl]; exact ht rfl σ H1 Q (ev.step s1) r1 (t.step s1) (q.step s1)
    | false => rw [if_neg Bool.false_ne_true]; exact tl_pure (q.step s1) (hf rfl) r1 (.bl false)
theorem je_or (h : JE X W KE a n μ fun x μ1 => ∃ c, x = .bl c ∧ (c = true → k (.bl true) μ1) ∧ (c = false → JE X W KE (.BoolOp .Or (b :: rest) pos) n μ1 k)) : JE X W KE (.BoolOp .Or (a :: b :: rest) pos) n μ k :=
  je_of (pe_or peC peC) fun σ H Q ev rp t q => by
    refine h σ H _ ev rp t fun u x H1 μ1 h1 s1 r1 d1 => ?_
    obtain ⟨c, rfl, ht, hf⟩ := h1
    cases d1
    refine ⟨c, rfl, ?_⟩
    cases c with
    | true => rw [if_pos rfl]; exact tl_pure (q.step s1) (ht rfl) r1 (.bl true)
    | false => rw [if_neg Bool.false_ne_true]; exact hf rfl σ H1 Q (ev.step s1) r1 (t.step s1) (q.step s1)
theorem je_not (h : JE X W KE a n μ fun x μ1 => ∃ c, x = .bl c ∧ k (.bl (!c)) μ1) : JE X W KE (.UnaryOp .Not a pos) n μ k :=
  je_of (pe_not peC) fun σ H Q ev rp t q => by
    refine h σ H _ ev rp t fun u x H1 μ1 h1 s1 r1 d1 => ?_
    obtain ⟨c, rfl, h2⟩ := h1
    cases d1
    exact ⟨c, rfl, tl_pure (q.step s1) h2 r1 (.bl _)⟩
theorem je_ite (h : JT X W KE c n μ fun t μ1 => (t = true → JE X W KE a n μ1 k) ∧ (t = false → JE X W KE b n μ1 k)) : JE X W KE (.IfExp c a b pos) n μ k :=
  je_of (pe_ifExp ptC peC peC) fun σ H Q ev rp t q => by
    refine h σ H _ ev rp t fun u H1 μ1 h1 s1 r1 => ?_
    cases u with
    | true => rw [if_pos rfl]; exact h1.1 rfl σ H1 Q (ev.step s1) r1 (t.step s1) (q.step s1)
    | false => rw [if_neg Bool.false_ne_true]; exact h1.2 rfl σ H1 Q (ev.step s1) r1 (t.step s1) (q.step s1)

/-! ### tests -/
section
variable {kb : Bool → M → Prop}
theorem jt_val (h : JE X W KE e n μ fun x μ1 => ∃ c, x = .bl c ∧ kb c μ1) (he : ∀ whole, isTrue e X.env whole = (do let v ← whole; standAt e.pos; holding [v] (truthy v)) := by intro _; rfl) : JT X W KE e n μ kb :=
  jt_of (pt_val peC he) fun σ H Q ev rp t q => by
    refine h σ H _ ev rp t fun u x H1 μ1 h1 s1 r1 d1 => ?_
    obtain ⟨c, rfl, h2⟩ := h1
    cases d1
    exact ⟨c, rfl, q _ _ μ1 h2 s1 r1⟩
theorem jt_not (h : JT X W KE a n μ fun c μ1 => kb (!c) μ1) : JT X W KE (.UnaryOp .Not a pos) n μ kb :=
  jt_of (pt_not ptC) fun σ H Q ev rp t q => h σ H _ ev rp t fun u H1 μ1 h1 s1 r1 => q _ _ μ1 h1 s1 r1
theorem jt_w (h : JW X W KE e n μ kb) : JT X W KE e n μ kb := jt_of pwC.pt fun σ H Q ev rp t q => h σ H Q ev rp t q
theorem jw_and1 (h : JT X W KE a n μ kb) : JW X W KE (.BoolOp .And [a] pos) n μ kb := jw_of (pw_and1 ptC) fun σ H Q ev rp t q => h σ H Q ev rp t q
theorem jw_or1 (h : JT X W KE a n μ kb) : JW X W KE (.BoolOp .Or [a] pos) n μ kb := jw_of (pw_or1 ptC) fun σ H Q ev rp t q => h σ H Q ev rp t q
theorem jw_and (h : JT X W KE a n μ fun c μ1 => (c = true → JW X W KE (.BoolOp .And (b :: rest) pos) n μ1 kb) ∧ (c = false → kb false μ1)) : JW X W KE (.BoolOp .And (a :: b :: rest) pos) n μ kb :=
  jw_of (pw_and ptC pwC) fun σ H Q ev rp t q => by
    refine h σ H _ ev rp t fun u H1 μ1 h1 s1 r1 => ?_
    cases u with
    | true => rw [if_pos rfl]; exact h1.1 rfl σ H1 Q (ev.step s1) r1 (t.step s1) (q.step s1)
    | false => rw [if_neg Bool.false_ne_true]; exact q _ _ μ1 (h1.2 rfl) s1 r1
theorem jw_or (h : JT X W KE a n μ fun c μ1 => (c = true → kb true μ1) ∧ (c = false → JW X W KE (.BoolOp .Or (b :: rest) pos) n μ1 kb)) : JW X W KE (.BoolOp .Or (a :: b :: rest) pos) n μ kb :=
  jw_of (pw_or ptC pwC) fun σ H Q ev rp t q => by
    refine h σ H _ ev rp t fun u H1 μ1 h1 s1 r1 => ?_
    cases u with
    | true => rw [if_pos rfl]; exact q _ _ μ1 (h1.1 rfl) s1 r1
    | false => rw [if_neg Bool.false_ne_true]; exact h1.2 rfl σ H1 Q (ev.step s1) r1 (t.step s1) (q.step s1)
end

/-! ### arguments, displays -/
section
variable {ka : List Dv → M → Prop}
theorem ja_nil (h : ka [] μ) : JA X W KE [] n μ ka := fun σ H Q ev rp t q pos pins s I => pa_nil.run pos pins s σ H Q I (q _ _ _ μ h (Step.refl _ _) rp .nil)
theorem ja_cons (h : JE X W KE a n μ fun x μ1 => JA X W KE rest n μ1 fun xs μ2 => ka (x :: xs) μ2) (hs : starEach (a :: rest) X.env = (false, eval a X.env) :: starEach rest X.env := by rfl) : JA X W KE (a :: rest) n μ ka := fun σ H Q ev rp t q pos pins s I => by
  refine (pa_cons peC paC hs).run pos pins s σ H Q I ?_
  refine h σ H _ ev rp t fun u x H1 μ1 h1 s1 r1 d1 => ?_
  refine h1 σ H1 _ (ev.step s1) r1 (t.step s1) fun us xs H2 μ2 h2 s2 r2 d2 => ?_
  exact q _ _ H2 μ2 h2 (s1.trans s2) r2 (.cons (d1.step s2) d2)
theorem ja_one (h : JE X W KE a n μ fun x μ1 => ka [x] μ1) (hs : starEach [a] X.env = (false, eval a X.env) :: starEach [] X.env := by rfl) : JA X W KE [a] n μ ka := ja_cons (h.mono fun _ _ z => ja_nil z) hs
end
theorem je_tup {kk} (h : JA X W KE es n μ fun xs μ1 => xs.length ≤ sizeLine ∧ k (.tup xs) μ1) : JE X W KE (.Tuple es kk pos) n μ k :=
  je_of (pe_tup paC) fun σ H Q ev rp t q => by
    refine h σ H _ ev rp t fun us xs H1 μ1 h1 s1 r1 d1 => ⟨by rw [d1.length]; exact h1.1, fun p hp => ?_⟩
    exact tl_new (q.step s1) h1.2 r1 hp (.tup upd_same (r1.free hp) (d1.step (Step.new hp)))
theorem je_lst (h : JA X W KE es n μ fun xs μ1 => xs.length ≤ sizeLine ∧ k (.lst xs) μ1) : JE X W KE (.List es pos) n μ k :=
  je_of (pe_lst paC) fun σ H Q ev rp t q => by
    refine h σ H _ ev rp t fun us xs H1 μ1 h1 s1 r1 d1 => ⟨by rw [d1.length]; exact h1.1, fun p hp => ?_⟩
    exact tl_new (q.step s1) h1.2 r1 hp (.lst upd_same (r1.free hp) (d1.step (Step.new hp)))
/-- a display that stays mutable -/
theorem je_lstM (h : JA X W KE es n μ fun xs μ1 => xs.length ≤ sizeLine ∧ ∀ a, μ1 a = none → k (.obj a) (updM μ1 a (.lst xs))) : JE X W KE (.List es pos) n μ k :=
  je_of (pe_lst paC) fun σ H Q ev rp t q => by
    refine h σ H _ ev rp t fun us xs H1 μ1 h1 s1 r1 d1 => ⟨by rw [d1.length]; exact h1.1, fun p hp => ?_⟩
    have s2 : Step μ1 H1 (updM μ1 p (.lst xs)) (upd H1 p (.lst us)) := Step.newM hp
    exact q _ _ _ _ (h1.2 p (r1.free hp)) (s1.trans s2) (r1.put s2 ⟨us, upd_same, d1.step s2⟩) (.obj p)
/-- {} -/
theorem je_dnew (h : ∀ a, μ a = none → k (.obj a) (updM μ a (.dic []))) : JE X W KE (.Dict [] [] pos) n μ k :=
  je_of pe_dnewK fun σ H Q ev rp t q => fun p hp => by
    have s2 : Step μ H (updM μ p (.dic [])) (upd H p (.dK [])) := Step.newM hp
    exact q _ _ _ _ (h p (rp.free hp)) s2 (rp.put s2 ⟨[], upd_same, .nil⟩) (.obj p)

/-! ### what may be read as a list, a tuple, an instance -/
inductive LsE (μ : M) : Dv → List Dv → Prop where
  | lst (xs : List Dv) : LsE μ (.lst xs) xs
  | obj {a : Addr} {xs : List Dv} (h : μ a = some (.lst xs)) : LsE μ (.obj a) xs
theorem LsE.rep {d : Dv} {xs : List Dv} {H : Hp} {u : V} (l : LsE μ d xs) (r : Rep K μ H) (q : DRep K μ H u d) : ∃ a vs, u = .ref a ∧ H a = some (.lst vs) ∧ DReps K μ H vs xs := by
  cases l with
  | lst xs => cases q with | lst h n r => exact ⟨_, _, rfl, h, r⟩
  | obj h => cases q with | obj a => obtain ⟨vs, e, rr⟩ := r _ _ h; exact ⟨_, _, rfl, e, rr⟩
inductive SqD (μ : M) : Dv → List Dv → Prop where
  | lst (xs : List Dv) : SqD μ (.lst xs) xs
  | fro (xs : List Dv) : SqD μ (.fro xs) xs
  | obj {a : Addr} {xs : List Dv} (h : μ a = some (.lst xs)) : SqD μ (.obj a) xs
theorem SqD.rep {d : Dv} {xs : List Dv} {H : Hp} {u : V} (l : SqD μ d xs) (r : Rep K μ H) (q : DRep K μ H u d) : ∃ a vs, u = .ref a ∧ SqL K H a vs ∧ DReps K μ H vs xs := by
  cases l with
  | lst xs => cases q with | lst h n r => exact ⟨_, _, rfl, SqL.of h, r⟩
  | fro xs =>
    cases q with
    | fro h n r => exact ⟨_, _, rfl, .inl h, r⟩
    | frk h r => exact ⟨_, _, rfl, .inr h, r⟩
  | obj h => cases q with | obj a => obtain ⟨vs, e, rr⟩ := r _ _ h; exact ⟨_, _, rfl, SqL.of e, rr⟩
theorem tup_rep {xs : List Dv} {H : Hp} {u : V} (q : DRep K μ H u (.tup xs)) : ∃ a vs, u = .ref a ∧ H a = some (.tup vs) ∧ DReps K μ H vs xs := by
  cases q with | tup h n r => exact ⟨_, _, rfl, h, r⟩
/-- an instance, mutable or data -/
inductive InsD (μ : M) : Dv → Addr → List (Str × Dv) → Prop where
  | ins (C : Addr) (fs : List (Str × Dv)) : InsD μ (.ins C fs) C fs
  | obj {a C : Addr} {fs : List (Str × Dv)} (h : μ a = some (.ins C fs)) : InsD μ (.obj a) C fs
theorem InsD.rep {d : Dv} {C : Addr} {fs : List (Str × Dv)} {H : Hp} {u : V} (l : InsD μ d C fs) (r : Rep K μ H) (q : DRep K μ H u d) : ∃ a dx vs, u = .ref a ∧ H a = some (.ins C dx vs) ∧ DFlds K μ H vs fs := by
  cases l with
  | ins C fs => cases q with | ins h n r => exact ⟨_, _, _, rfl, h, r⟩
  | obj h => cases q with | obj a => obtain ⟨dx, vs, e, rr⟩ := r _ _ h; exact ⟨_, _, _, rfl, e, rr⟩
theorem je_fld {f : Str} (h : JE X W KE e n μ fun d μ1 => ∃ C fs v, InsD μ1 d C fs ∧ Cls X.K C ∧ NoAttr X.K C f ∧ fs.lookup f = some v ∧ k v μ1)
    (hb : attributeBase e f X.env (eval e X.env) = eval e X.env := by rfl) : JE X W KE (.Attribute e f pos) n μ k :=
  je_of (pe_fld peC hb) fun σ H Q ev rp t q => by
    refine h σ H _ ev rp t fun u x H1 μ1 h1 s1 r1 d1 => ?_
    obtain ⟨C, fs, v, i, c, na, l, h2⟩ := h1
    obtain ⟨a, dx, vs, rfl, ha, fr⟩ := i.rep r1 d1
    obtain ⟨w, l1, l2⟩ := fr.get l
    exact ⟨a, C, dx, vs, w, rfl, ha, c, na, l1, tl_pure (q.step s1) h2 r1 l2⟩
end
end DL

/-! ## Operators, subscripts, calls -/
namespace DL
open PySem PySem.Spec L2
section
variable {X : Cx} {W : WX} {KE : XD} {e a b c : Expr} {es rest : List Expr} {n : En} {μ : M} {k : DK} {pos p : Pos} {x : Str} {K : Kf} {kl : Nat}

/-! ### operators on data -/
def rAddA (K : Kf) : R2 := fun x y H Q => rI0 (fun i j => V.int (i + j)) x y H Q ∨ (∃ i j, x = V.str i ∧ y = V.str j ∧ i.length + j.length ≤ sizeLine ∧ Q (.str (i ++ j)) H) ∨ rCat x y H Q ∨ rCatA K x y H Q
theorem op_addA : OpR X (binaryOp .Add) (rAddA X.K) := OpR.or op_add (OpR.or op_add_str (OpR.or op_cat op_catA))
theorem je_add (h : JE X W KE a n μ fun x μ1 => JE X W KE b n μ1 fun y μ2 => DOp X.K (rAddA X.K) x y μ2 k) : JE X W KE (.BinOp a .Add b pos) n μ k := je_bin op_addA h
theorem d_addI {i j : Int} (h : k (.int (i + j)) μ) : DOp K (rAddA K) (.int i) (.int j) μ k := fun u v H Q r du dv t => by
  cases du; cases dv
  exact .inl ⟨i, j, rfl, rfl, tl_pure t h r (.int _)⟩
theorem d_addS {i j : Str} (hz : i.length + j.length ≤ sizeLine) (h : k (.str (i ++ j)) μ) : DOp K (rAddA K) (.str i) (.str j) μ k := fun u v H Q r du dv t => by
  cases du; cases dv
  exact .inr (.inl ⟨i, j, rfl, rfl, hz, tl_pure t h r (.str _)⟩)
theorem d_addL {x y : Dv} {xs ys : List Dv} (l1 : LsE μ x xs) (l2 : LsE μ y ys) (hz : xs.length + ys.length ≤ sizeLine) (h : k (.lst (xs ++ ys)) μ) : DOp K (rAddA K) x y μ k := fun u v H Q r du dv t => by
  obtain ⟨a, vs, rfl, ha, ra⟩ := l1.rep r du
  obtain ⟨b, ws, rfl, hb, rb⟩ := l2.rep r dv
  exact .inr (.inr (.inl ⟨a, b, vs, ws, rfl, rfl, ha, hb, by rw [ra.length, rb.length]; exact hz, fun p hp => tl_new t h r hp (.lst upd_same (r.free hp) ((ra.append rb).step (Step.new hp)))⟩))
theorem d_addT {xs ys : List Dv} (hz : xs.length + ys.length ≤ sizeLine) (h : k (.tup (xs ++ ys)) μ) : DOp K (rAddA K) (.tup xs) (.tup ys) μ k := fun u v H Q r du dv t => by
  have du' := du
  have dv' := dv
  obtain ⟨a, vs, rfl, ha, ra⟩ := tup_rep du
  obtain ⟨b, ws, rfl, hb, rb⟩ := tup_rep dv
  refine .inr (.inr (.inr ⟨a, b, vs, ws, rfl, rfl, SqT.of ha, SqT.of hb, by rw [ra.length, rb.length]; exact hz, fun e => ?_, fun _ e => ?_, fun _ _ p hp => ?_⟩))
  · subst e
    cases ra
    exact tl_pure t h r dv'
  · subst e
    cases rb
    rw [List.append_nil] at h
    exact tl_pure t h r du'
  · exact tl_new t h r hp (.tup upd_same (r.free hp) ((ra.append rb).step (Step.new hp)))
theorem je_sub (h : JE X W KE a n μ fun x μ1 => JE X W KE b n μ1 fun y μ2 => DOp X.K (rI0 fun i j => V.int (i - j)) x y μ2 k) : JE X W KE (.BinOp a .Sub b pos) n μ k := je_bin op_sub h
theorem d_I0 {g : Int → Int → V} {z : Dv} {i j : Int} (hz : ∀ H, DRep K μ H (g i j) z) (h : k z μ) : DOp K (rI0 g) (.int i) (.int j) μ k := fun u v H Q r du dv t => by
  cases du; cases dv
  exact ⟨i, j, rfl, rfl, tl_pure t h r (hz H)⟩
theorem d_I {g : Int → Int → V} {C : Int → Int → Prop} {z : Dv} {i j : Int} (hc : C i j) (hz : ∀ H, DRep K μ H (g i j) z) (h : k z μ) : DOp K (rI C g) (.int i) (.int j) μ k := fun u v H Q r du dv t => by
  cases du; cases dv
  exact ⟨i, j, rfl, rfl, hc, tl_pure t h r (hz H)⟩
theorem d_subI {i j : Int} (h : k (.int (i - j)) μ) : DOp K (rI0 fun i j => V.int (i - j)) (.int i) (.int j) μ k := d_I0 (fun _ => .int _) h
def rMulA : R2 := fun x y H Q => rI CMul (fun i j => V.int (i * j)) x y H Q ∨ rRep x y H Q
theorem op_mulA : OpR X (binaryOp .Mult) rMulA := OpR.or op_mul op_rep
theorem je_mul (h : JE X W KE a n μ fun x μ1 => JE X W KE b n μ1 fun y μ2 => DOp X.K rMulA x y μ2 k) : JE X W KE (.BinOp a .Mult b pos) n μ k := je_bin op_mulA h
theorem d_mulI {i j : Int} (hc : CMul i j) (h : k (.int (i * j)) μ) : DOp K rMulA (.int i) (.int j) μ k := fun u v H Q r du dv t => .inl (d_I hc (fun _ => .int _) h u v H Q r du dv t)
theorem replicate_flatten_one {α : Type} (v : α) (j : Nat) : (List.replicate j [v]).flatten = List.replicate j v := by
  induction j with
  | zero => rfl
  | succ j ih => rw [List.replicate_succ, List.replicate_succ, List.flatten_cons, ih]; rfl
/-- [d] * j -/
theorem d_mulL1 {x d : Dv} {j : Int} (l1 : LsE μ x [d]) (hj : -(2 ^ 63) ≤ j ∧ j ≤ 16777216) (h : k (.lst (List.replicate j.toNat d)) μ) : DOp K rMulA x (.int j) μ k := fun u v H Q r du dv t => by
  obtain ⟨a, vs, rfl, ha, ra⟩ := l1.rep r du
  cases dv
  cases ra with
  | cons h1 t1 =>
    cases t1
    refine .inr ⟨a, j, _, rfl, rfl, ha, hj.1, by omega, by show 1 * j.toNat ≤ sizeLine; rw [sizeLine_eq]; omega, fun p hp => tl_new t h r hp (.lst upd_same (r.free hp) ?_)⟩
    rw [replicate_flatten_one]
    exact (DReps.replicate h1 _).step (Step.new hp)
theorem je_fdiv (h : JE X W KE a n μ fun x μ1 => JE X W KE b n μ1 fun y μ2 => DOp X.K (rI CDiv fun i j => V.int (i / j)) x y μ2 k) : JE X W KE (.BinOp a .FloorDiv b pos) n μ k := je_bin op_fdiv h
theorem d_fdivI {i j : Int} (hc : CDiv i j) (h : k (.int (i / j)) μ) : DOp K (rI CDiv fun i j => V.int (i / j)) (.int i) (.int j) μ k := d_I hc (fun _ => .int _) h
theorem je_mod (h : JE X W KE a n μ fun x μ1 => JE X W KE b n μ1 fun y μ2 => DOp X.K (rI (fun _ j => 0 < j) fun i j => V.int (i % j)) x y μ2 k) : JE X W KE (.BinOp a .Mod b pos) n μ k := je_bin op_mod h
theorem d_modI {i j : Int} (hc : 0 < j) (h : k (.int (i % j)) μ) : DOp K (rI (fun _ j => 0 < j) fun i j => V.int (i % j)) (.int i) (.int j) μ k := d_I (C := fun _ j => 0 < j) hc (fun _ => .int _) h
theorem je_pow (h : JE X W KE a n μ fun x μ1 => JE X W KE b n μ1 fun y μ2 => DOp X.K (rI CPow fun i j => V.int (i ^ j.toNat)) x y μ2 k) : JE X W KE (.BinOp a .Pow b pos) n μ k := je_bin op_pow h
theorem d_powI {i j : Int} (hc : CPow i j) (h : k (.int (i ^ j.toNat)) μ) : DOp K (rI CPow fun i j => V.int (i ^ j.toNat)) (.int i) (.int j) μ k := d_I hc (fun _ => .int _) h
theorem je_neg (h : JE X W KE a n μ fun x μ1 => DUn X.K (rU fun i => V.int (-i)) x μ1 k) : JE X W KE (.UnaryOp .USub a pos) n μ k := je_un un_neg h
theorem d_negI {i : Int} (h : k (.int (-i)) μ) : DUn K (rU fun i => V.int (-i)) (.int i) μ k := fun u H Q r du t => by
  cases du
  exact ⟨i, rfl, tl_pure t h r (.int _)⟩

/-! ### comparisons -/
theorem je_lt (h : JE X W KE a n μ fun x μ1 => JE X W KE b n μ1 fun y μ2 => DOp X.K (rI0 fun i j => V.bl (decide (i < j))) x y μ2 k) : JE X W KE (.Compare a [.Lt] [b] pos) n μ k := je_cmp op_lt (nomark _) h
theorem je_le (h : JE X W KE a n μ fun x μ1 => JE X W KE b n μ1 fun y μ2 => DOp X.K (rI0 fun i j => V.bl (decide (i ≤ j))) x y μ2 k) : JE X W KE (.Compare a [.LtE] [b] pos) n μ k := je_cmp op_le (nomark _) h
theorem je_gt (h : JE X W KE a n μ fun x μ1 => JE X W KE b n μ1 fun y μ2 => DOp X.K (rI0 fun i j => V.bl (decide (j < i))) x y μ2 k) : JE X W KE (.Compare a [.Gt] [b] pos) n μ k := je_cmp op_gt (nomark _) h
theorem je_ge (h : JE X W KE a n μ fun x μ1 => JE X W KE b n μ1 fun y μ2 => DOp X.K (rI0 fun i j => V.bl (decide (j ≤ i))) x y μ2 k) : JE X W KE (.Compare a [.GtE] [b] pos) n μ k := je_cmp op_ge (nomark _) h
theorem d_cmpI {g : Int → Int → Bool} {i j : Int} (h : k (.bl (g i j)) μ) : DOp K (rI0 fun i j => V.bl (g i j)) (.int i) (.int j) μ k := d_I0 (fun _ => .bl _) h
/-- flat things that == compares at once -/
inductive ScD : Dv → V → Prop where
  | non : ScD .non .non
  | bl (b : Bool) : ScD (.bl b) (.bl b)
  | int (i : Int) : ScD (.int i) (.int i)
  | str (x : Str) : ScD (.str x) (.str x)
theorem ScD.eq {d : Dv} {u v : V} {H : Hp} (s : ScD d v) (r : DRep K μ H u d) : u = v := by cases s <;> cases r <;> rfl
mutual
def toPy : Dv → Option PyData
  | .non => some .none
  | .bl b => some (.bool b)
  | .int i => some (.int i)
  | .str x => some (.str x)
  | .tup xs => (toPys xs).map .tuple
  | .lst xs => (toPys xs).map .list
  | .fro xs => (toPys xs).map .list
  | _ => none
def toPys : List Dv → Option (List PyData)
  | [] => some []
  | x :: r => match toPy x, toPys r with
    | some y, some ys => some (y :: ys)
    | _, _ => none
end
mutual
theorem DRep.dp {H : Hp} : ∀ {v : V} {d : Dv} {q : PyData}, DRep K μ H v d → toPy d = some q → Dp K H v q
  | _, _, q, .non, e => by unfold toPy at e; cases e; exact .non
  | _, _, q, .bl b, e => by unfold toPy at e; cases e; exact .bl b
  | _, _, q, .int b, e => by unfold toPy at e; cases e; exact .int b
  | _, _, q, .str b, e => by unfold toPy at e; cases e; exact .str b
  | _, _, q, .ty b, e => by unfold toPy at e; cases e
  | _, _, q, .obj b, e => by unfold toPy at e; cases e
  | _, _, q, .tup (ds := ds) h n r, e => by
    unfold toPy at e
    cases z : toPys ds with
    | none => rw [z] at e; cases e
    | some qs => rw [z] at e; cases e; exact .tup (SqT.of h) (r.dps z)
  | _, _, q, .lst (ds := ds) h n r, e => by
    unfold toPy at e
    cases z : toPys ds with
    | none => rw [z] at e; cases e
    | some qs => rw [z] at e; cases e; exact .lst (SqL.of h) (r.dps z)
  | _, _, q, .fro (ds := ds) h n r, e => by
    unfold toPy at e
    cases z : toPys ds with
    | none => rw [z] at e; cases e
    | some qs => rw [z] at e; cases e; exact .lst (.inl h) (r.dps z)
  | _, _, q, .frk (ds := ds) h r, e => by
    unfold toPy at e
    cases z : toPys ds with
    | none => rw [z] at e; cases e
    | some qs => rw [z] at e; cases e; exact .lst (.inr h) (r.dps z)
  | _, _, q, .ins h n r, e => by unfold toPy at e; cases e
  | _, _, q, .exc0 h n, e => by unfold toPy at e; cases e
  | _, _, q, .exc1 h n h2 n2 r, e => by unfold toPy at e; cases e
theorem DReps.dps {H : Hp} : ∀ {v : List V} {d : List Dv} {q : List PyData}, DReps K μ H v d → toPys d = some q → DpAll K H v q
  | _, _, q, .nil, e => by unfold toPys at e; cases e; exact .nil
  | _, _, q, .cons (d := d) (ds := ds) h t, e => by
    unfold toPys at e
    cases z1 : toPy d with
    | none => rw [z1] at e; cases e
    | some y =>
      cases z2 : toPys ds with
      | none => rw [z1, z2] at e; cases e
      | some ys =>
        rw [z1, z2] at e
        cases e
        exact .cons (h.dp z1) (t.dps z2)
end
def rEqA (K : Kf) : R2 := fun x y H Q => rEq x y H Q ∨ rEqD K x y H Q
def rNeA (K : Kf) : R2 := fun x y H Q => rNe x y H Q ∨ rNeD K x y H Q
theorem je_eq (c : Cok kl X W) (h : JE X W KE a n μ fun x μ1 => JE X W KE b n μ1 fun y μ2 => DOp X.K (rEqA X.K) x y μ2 k) : JE X W KE (.Compare a [.Eq] [b] pos) n μ k := je_cmp (OpR.or op_eq (op_eqD c.room.units)) (nomark _) h
theorem je_ne (c : Cok kl X W) (h : JE X W KE a n μ fun x μ1 => JE X W KE b n μ1 fun y μ2 => DOp X.K (rNeA X.K) x y μ2 k) : JE X W KE (.Compare a [.NotEq] [b] pos) n μ k := je_cmp (OpR.or op_ne (op_neD c.room.units)) (nomark _) h
theorem d_eqSc {x y : Dv} {u v : V} (hx : ScD x u) (hy : ScD y v) (hs : scal u v = true) (h : k (.bl (decide (u = v))) μ) : DOp K (rEqA K) x y μ k := fun u' v' H Q r du dv t => by
  rw [hx.eq du, hy.eq dv]
  exact .inl ⟨hs, tl_pure t h r (.bl _)⟩
theorem d_neSc {x y : Dv} {u v : V} (hx : ScD x u) (hy : ScD y v) (hs : scal u v = true) (h : k (.bl (!decide (u = v))) μ) : DOp K (rNeA K) x y μ k := fun u' v' H Q r du dv t => by
  rw [hx.eq du, hy.eq dv]
  exact .inl ⟨hs, tl_pure t h r (.bl _)⟩
theorem decI {i j : Int} : decide (V.int i = V.int j) = decide (i = j) := decide_eq_decide.mpr ⟨V.int.inj, congrArg _⟩
theorem decS {i j : Str} : decide (V.str i = V.str j) = decide (i = j) := decide_eq_decide.mpr ⟨V.str.inj, congrArg _⟩
theorem decB {i j : Bool} : decide (V.bl i = V.bl j) = decide (i = j) := decide_eq_decide.mpr ⟨V.bl.inj, congrArg _⟩
theorem d_eqI {i j : Int} (h : k (.bl (decide (i = j))) μ) : DOp K (rEqA K) (.int i) (.int j) μ k := d_eqSc (.int i) (.int j) rfl (by rw [decI]; exact h)
theorem d_neI {i j : Int} (h : k (.bl (!decide (i = j))) μ) : DOp K (rNeA K) (.int i) (.int j) μ k := d_neSc (.int i) (.int j) rfl (by rw [decI]; exact h)
theorem d_eqS {i j : Str} (h : k (.bl (decide (i = j))) μ) : DOp K (rEqA K) (.str i) (.str j) μ k := d_eqSc (.str i) (.str j) rfl (by rw [decS]; exact h)
theorem d_neS {i j : Str} (h : k (.bl (!decide (i = j))) μ) : DOp K (rNeA K) (.str i) (.str j) μ k := d_neSc (.str i) (.str j) rfl (by rw [decS]; exact h)
theorem d_eqB {i j : Bool} (h : k (.bl (decide (i = j))) μ) : DOp K (rEqA K) (.bl i) (.bl j) μ k := d_eqSc (.bl i) (.bl j) rfl (by rw [decB]; exact h)
theorem d_neB {i j : Bool} (h : k (.bl (!decide (i = j))) μ) : DOp K (rNeA K) (.bl i) (.bl j) μ k := d_neSc (.bl i) (.bl j) rfl (by rw [decB]; exact h)
theorem d_eqNI {j : Int} (h : k (.bl false) μ) : DOp K (rEqA K) .non (.int j) μ k := d_eqSc .non (.int j) rfl h
theorem d_neNI {j : Int} (h : k (.bl true) μ) : DOp K (rNeA K) .non (.int j) μ k := d_neSc .non (.int j) rfl h
theorem d_eqD {x y : Dv} {p q : PyData} (hx : toPy x = some p) (hy : toPy y = some q) (sp : SeqAt.shaped p = true) (sq : SeqAt.shaped q = true) (h : k (.bl (PyData.eqv p q)) μ) : DOp K (rEqA K) x y μ k := fun u v H Q r du dv t =>
  .inr ⟨p, q, du.dp hx, dv.dp hy, sp, sq, tl_pure t h r (.bl _)⟩
theorem d_neD {x y : Dv} {p q : PyData} (hx : toPy x = some p) (hy : toPy y = some q) (sp : SeqAt.shaped p = true) (sq : SeqAt.shaped q = true) (h : k (.bl (!PyData.eqv p q)) μ) : DOp K (rNeA K) x y μ k := fun u v H Q r du dv t =>
  .inr ⟨p, q, du.dp hx, dv.dp hy, sp, sq, tl_pure t h r (.bl _)⟩
/-- a mutable list read as data, for == -/
theorem DRep.thaw {H : Hp} {v : V} {a : Addr} {xs : List Dv} {qs : List PyData} (r : Rep K μ H) (d : DRep K μ H v (.obj a)) (h : μ a = some (.lst xs)) (e : toPys xs = some qs) : Dp K H v (.list qs) := by
  cases d
  obtain ⟨vs, e1, r1⟩ := r _ _ h
  exact .lst (SqL.of e1) (r1.dps e)
theorem d_eqDO {x : Dv} {a : Addr} {xs : List Dv} {p : PyData} {qs : List PyData} (hx : toPy x = some p) (ha : μ a = some (.lst xs)) (hy : toPys xs = some qs) (sp : SeqAt.shaped p = true) (sq : SeqAt.shaped (.list qs) = true) (h : k (.bl (PyData.eqv p (.list qs))) μ) : DOp K (rEqA K) x (.obj a) μ k := fun u v H Q r du dv t =>
  .inr ⟨p, _, du.dp hx, dv.thaw r ha hy, sp, sq, tl_pure t h r (.bl _)⟩
theorem d_neDO {x : Dv} {a : Addr} {xs : List Dv} {p : PyData} {qs : List PyData} (hx : toPy x = some p) (ha : μ a = some (.lst xs)) (hy : toPys xs = some qs) (sp : SeqAt.shaped p = true) (sq : SeqAt.shaped (.list qs) = true) (h : k (.bl (!PyData.eqv p (.list qs))) μ) : DOp K (rNeA K) x (.obj a) μ k := fun u v H Q r du dv t =>
  .inr ⟨p, _, du.dp hx, dv.thaw r ha hy, sp, sq, tl_pure t h r (.bl _)⟩
def isNonD : Dv → Bool
  | .non => true
  | _ => false
theorem isNonD_dec {d : Dv} {u : V} {H : Hp} (r : DRep K μ H u d) : decide (u = V.non) = isNonD d := by cases r <;> rfl
theorem je_is (h : JE X W KE a n μ fun x μ1 => JE X W KE b n μ1 fun y μ2 => DOp X.K (fun x y H Q => y = .non ∧ Q (.bl (decide (x = .non))) H) x y μ2 k) (hm : behindInMarks .Is b = false := by exact nomark _) : JE X W KE (.Compare a [.Is] [b] pos) n μ k := je_cmp op_isN hm h
theorem je_isnot (h : JE X W KE a n μ fun x μ1 => JE X W KE b n μ1 fun y μ2 => DOp X.K (fun x y H Q => y = .non ∧ Q (.bl (!decide (x = .non))) H) x y μ2 k) (hm : behindInMarks .IsNot b = false := by exact nomark _) : JE X W KE (.Compare a [.IsNot] [b] pos) n μ k := je_cmp op_notN hm h
theorem d_isN {x : Dv} (h : k (.bl (isNonD x)) μ) : DOp K (fun x y H Q => y = .non ∧ Q (.bl (decide (x = .non))) H) x .non μ k := fun u v H Q r du dv t => by
  cases dv
  exact ⟨rfl, by rw [isNonD_dec du]; exact tl_pure t h r (.bl _)⟩
theorem d_isnotN {x : Dv} (h : k (.bl (!isNonD x)) μ) : DOp K (fun x y H Q => y = .non ∧ Q (.bl (!decide (x = .non))) H) x .non μ k := fun u v H Q r du dv t => by
  cases dv
  exact ⟨rfl, by rw [isNonD_dec du]; exact tl_pure t h r (.bl _)⟩

/-! ### subscripts -/
theorem DReps.atI {H : Hp} {vs : List V} {ds : List Dv} {i : Int} {d : Dv} (r : DReps K μ H vs ds) (h : L2.atI ds i = some d) : ∃ v, L2.atI vs i = some v ∧ DRep K μ H v d := by
  unfold L2.atI at h ⊢
  rw [r.length]
  cases e : ixN ds.length i with
  | none => rw [e] at h; cases h
  | some j =>
    rw [e] at h
    exact r.get h
theorem je_ix (h : JE X W KE a n μ fun x μ1 => JE X W KE b n μ1 fun y μ2 => DOp X.K (rIx X.K) x y μ2 k) (hs : PlainIx b := by exact fun _ _ => rfl) : JE X W KE (.Subscript a b pos) n μ k :=
  je_of (pe_ix ix_seq peC peC hs) fun σ H Q ev rp t q => by
    refine h σ H _ ev rp t fun u x H1 μ1 h1 s1 r1 d1 => ?_
    refine h1 σ H1 _ (ev.step s1) r1 (t.step s1) fun v y H2 μ2 h2 s2 r2 d2 => ?_
    exact h2 u v H2 Q r2 (d1.step s2) d2 (q.step (s1.trans s2))
theorem d_ixL {x : Dv} {xs : List Dv} {i : Int} {d : Dv} (l : SqD μ x xs) (hi : L2.atI xs i = some d) (h : k d μ) : DOp K (rIx K) x (.int i) μ k := fun u v H Q r du dv t => by
  obtain ⟨a, vs, rfl, ha, ra⟩ := l.rep r du
  cases dv
  obtain ⟨w, e, rw⟩ := ra.atI hi
  exact .inl ⟨a, vs, i, w, rfl, rfl, ha, e, tl_pure t h r rw⟩
theorem d_ixT {xs : List Dv} {i : Int} {d : Dv} (hi : L2.atI xs i = some d) (h : k d μ) : DOp K (rIx K) (.tup xs) (.int i) μ k := fun u v H Q r du dv t => by
  obtain ⟨a, vs, rfl, ha, ra⟩ := tup_rep du
  cases dv
  obtain ⟨w, e, rw⟩ := ra.atI hi
  exact .inr (.inl ⟨a, vs, i, w, rfl, rfl, SqT.of ha, e, tl_pure t h r rw⟩)
/-- a[lo:hi] of a list -/
def JO (X : Cx) (W : WX) (KE : XD) (o : Option Expr) (n : En) (μ : M) (k : Option Int → M → Prop) : Prop := match o with
  | none => k none μ
  | some e => JE X W KE e n μ fun d μ1 => ∃ i, d = .int i ∧ k (some i) μ1
def cO (X : Cx) : Option Expr → TO
  | none => tNoPart
  | some e => tPart (cE X e)
theorem poC {o : Option Expr} : PO X o (cO X o) := by
  cases o with
  | none => exact po_none
  | some e => exact po_some peC
theorem JO.run {o : Option Expr} {ko : Option Int → M → Prop} (h : JO X W KE o n μ ko) {σ : L2.St} {H : Hp} {Q : Option Int → Hp → Prop} (ev : Env X.K μ H σ n) (rp : Rep X.K μ H) (t : Thr X.K W KE μ H)
    (q : ∀ i H' μ', ko i μ' → Step μ H μ' H' → Rep X.K μ' H' → Q i H') : cO X o σ H Q := by
  cases o with
  | none => exact q _ _ μ h (Step.refl _ _) rp
  | some e =>
    refine h σ H _ ev rp t fun u x H1 μ1 h1 s1 r1 d1 => ?_
    obtain ⟨i, rfl, h2⟩ := h1
    cases d1
    exact ⟨i, rfl, q _ _ μ1 h2 s1 r1⟩
def cutD (xs : List Dv) (lo hi : Option Int) : List Dv := (xs.drop (HT.sIx xs.length 0 lo)).take (HT.sIx xs.length xs.length hi - HT.sIx xs.length 0 lo)
theorem DReps.cut {H : Hp} {vs : List V} {ds : List Dv} (r : DReps K μ H vs ds) (lo hi : Option Int) : DReps K μ H (cutV vs lo hi) (cutD ds lo hi) := by
  unfold cutV cutD
  rw [r.length]
  exact (r.drop _).take _
theorem je_slice {lo hi : Option Expr} {p2 : Pos} (h : JE X W KE a n μ fun x μ1 => JO X W KE lo n μ1 fun i μ2 => JO X W KE hi n μ2 fun j μ3 => ∃ xs, SqD μ3 x xs ∧ k (.lst (cutD xs i j)) μ3) : JE X W KE (.Subscript a (.Slice lo hi none p2) pos) n μ k :=
  je_of (pe_slice sl_list peC poC poC) fun σ H Q ev rp t q => by
    refine h σ H _ ev rp t fun u x H1 μ1 h1 s1 r1 d1 => ?_
    refine h1.run (ev.step s1) r1 (t.step s1) fun i H2 μ2 h2 s2 r2 => ?_
    have s12 := s1.trans s2
    refine h2.run (ev.step s12) r2 (t.step s12) fun j H3 μ3 h3 s3 r3 => ?_
    obtain ⟨xs, l, hk⟩ := h3
    obtain ⟨a, vs, rfl, ha, ra⟩ := l.rep r3 (d1.step (s2.trans s3))
    refine ⟨a, vs, rfl, ha, fun p hp => ?_⟩
    exact tl_new (q.step (s12.trans s3)) hk r3 hp (.lst upd_same (r3.free hp) ((ra.cut i j).step (Step.new hp)))
end
end DL

/-! ## Calls, statements, loops, comprehensions, defs -/
namespace DL
open PySem PySem.Spec L2

/-- a def's promise over data: the arguments, the store, what is wanted of the answer, of an exception -/
abbrev XF := Value → List (Str × Dv) → M → Prop
abbrev DSp := List Dv → M → DK → XF → Prop
def toSp (K : Kf) (S : DSp) : Sp := fun vs H Q E => ∃ ds μ kd ke, DReps K μ H vs ds ∧ Rep K μ H ∧ S ds μ kd ke ∧ Tl K μ H kd Q ∧ ∀ cls fs d H' μ', ke cls fs μ' → Step μ H μ' H' → Rep K μ' H' → XRep K μ' H' d fs → E cls d H'
inductive CRels : List Dv → List V → Prop where
  | nil : CRels [] []
  | cons {d : Dv} {v : V} {ds : List Dv} {vs : List V} (h : CRel d v) (t : CRels ds vs) : CRels (d :: ds) (v :: vs)
theorem CRels.rep {K : Kf} {μ : M} {H : Hp} : ∀ {ds : List Dv} {vs : List V}, CRels ds vs → DReps K μ H vs ds
  | _, _, .nil => .nil
  | _, _, .cons h t => .cons h.rep t.rep
/-- what stands at f keeps the promise S (dvs: the defaults that fill up) -/
structure DFn (P : Program) (w : World) (K : Kf) (mg : Str → Option Value) (base : Heap) (k : Nat) (f : Addr) (S : DSp) (dvs : List Dv) : Prop where
  ex : ∃ (fd : FuncData) (ps : List Str) (ds : List Value) (vs : List V), FnOk P w K mg base (L2.CX P w) k f fd ps (toSp K S) ∧ Binds K fd ps ds ∧ Vals vs ds ∧ CRels dvs vs
structure DCal (P : Program) (w : World) (K : Kf) (mg : Str → Option Value) (base : Heap) (k : Nat) (x : Str) (S : DSp) (dvs : List Dv) : Prop where
  ex : ∃ f : Addr, DFn P w K mg base k f S dvs ∧ mg x = some (.ref f) ∧ PySem.W.keepIn K (.ref f) = true
structure DMet (P : Program) (w : World) (K : Kf) (mg : Str → Option Value) (base : Heap) (k : Nat) (C : Addr) (m : Str) (S : DSp) (dvs : List Dv) : Prop where
  ex : ∃ f : Addr, DFn P w K mg base k f S dvs ∧ Cls K C ∧ Meth K C m f
structure DMak (P : Program) (w : World) (K : Kf) (mg : Str → Option Value) (base : Heap) (k : Nat) (x : Str) (C : Addr) (S : DSp) (dvs : List Dv) : Prop where
  ex : ∃ f : Addr, DFn P w K mg base k f S dvs ∧ Mk K C f ∧ mg x = some (.ref C)
section
variable {X : Cx} {W : WX} {KE : XD} {e a b c o : Expr} {es rest : List Expr} {n : En} {μ : M} {k : DK} {pos p apos : Pos} {x m : Str} {K : Kf} {kl j : Nat} {S : DSp} {dvs : List Dv}
theorem DFn.mono {P : Program} {w : World} {mg : Str → Option Value} {base : Heap} {f : Addr} (h : DFn P w K mg base j f S dvs) (l : j ≤ kl) : DFn P w K mg base kl f S dvs := by
  obtain ⟨fd, ps, ds, vs, F, r⟩ := h.ex
  exact ⟨fd, ps, ds, vs, F.mono l, r⟩
/-- the callee runs, data in, data out -/
theorem run_data {f : Addr} {args : List Dv} {σ : L2.St} {H : Hp} {Q : VK} {vs : List V} {us : List Value} {pins : List (Addr × Obj)} {s : Shared} (c : Cok kl X W) (F : DFn X.prog X.w X.K X.mg X.base j f S dvs) (hj : j ≤ kl) (ev : Env X.K μ H σ n) (rp : Rep X.K μ H) (t : Thr X.K W KE μ H) (q : Tl X.K μ H k Q)
    (d : DReps X.K μ H vs args) (I : Inv X pins σ H s) (r : Vals vs us) (h : S (args ++ dvs) μ k (fun cls fs μ' => KE cls fs n μ')) : wpAny (model X.prog X.w) X.A (call (.ref f) us) (EP X pins σ Q) X.xe s := by
  obtain ⟨fd, ps, ds, dv, F, hb, hd, hc⟩ := F.ex
  refine run_fnSD (F.mono hj) c.room hb hd (passAt c.tk σ) I r ⟨args ++ dvs, μ, k, _, d.append hc.rep, rp, h, q, fun cls fs d' H' μ' h1 s1 r1 x1 => ?_⟩
  exact t cls fs d' σ n H' μ' h1 (ev.step s1) s1 r1 x1
theorem je_call (c : Cok kl X W) (F : DCal X.prog X.w X.K X.mg X.base j x S dvs) (hj : j ≤ kl) (h : JA X W KE (e :: es) n μ fun args μ1 => S (args ++ dvs) μ1 k (fun cls fs μ' => KE cls fs n μ')) (hg : Gl X x := by rfl)
    (hdb : (x == ("__debug__" : Str)) = false := by decide) (he : starEach (e :: es) X.env = (false, eval e X.env) :: starEach es X.env := by rfl) (hpl : (backTo pos (starEach es X.env)).any (·.1) = false := by rfl) :
    JE X W KE (.Call (.Name x p) (e :: es) [] pos) n μ k := fun σ H Q ev rp t q pins s I => by
  obtain ⟨f, F, hm, hk⟩ := F.ex
  refine wpAny_Call_Name_kw (ld_glob I hg hm ?_ hdb)
  refine PySem.W.callWith_K (h₀ := X.base) I.ok.mod.kin hk (thn (h σ H _ ev rp t (fun us xs H1 μ1 h1 s1 r1 d1 => show (fun vs H1 => ∃ args μ1, S (args ++ dvs) μ1 k (fun cls fs μ' => KE cls fs n μ') ∧ Step μ H μ1 H1 ∧ Rep X.K μ1 H1 ∧ DReps X.K μ1 H1 vs args) us H1 from ⟨xs, μ1, h1, s1, r1, d1⟩) pos pins s I) fun us s1 ⟨vs, H1, I1, r, args, μ1, h1, s1, r1, d1⟩ => ⟨I1.kIn, ?_⟩) he hpl
  exact run_data c F hj (ev.step s1) r1 (t.step s1) (q.step s1) d1 I1 r h1
theorem je_call0 (c : Cok kl X W) (F : DCal X.prog X.w X.K X.mg X.base j x S dvs) (hj : j ≤ kl) (h : S dvs μ k (fun cls fs μ' => KE cls fs n μ')) (hg : Gl X x := by rfl) (hdb : (x == ("__debug__" : Str)) = false := by decide) :
    JE X W KE (.Call (.Name x p) [] [] pos) n μ k := fun σ H Q ev rp t q pins s I => by
  obtain ⟨f, F, hm, hk⟩ := F.ex
  refine wpAny_Call_Name_kw (ld_glob I hg hm ?_ hdb)
  exact PySem.W.callWith_K0 I.kIn hk (run_data (us := []) (args := []) c F hj ev rp t q .nil I .nil h)
theorem je_meth {pl : Sem Bool} (c : Cok kl X W) (h : JE X W KE o n μ fun d μ1 => ∃ C fs S dvs j, InsD μ1 d C fs ∧ fs.lookup m = none ∧ DMet X.prog X.w X.K X.mg X.base j C m S dvs ∧ j ≤ kl ∧ JA X W KE (e :: es) n μ1 fun args μ2 => S (d :: (args ++ dvs)) μ2 k (fun cls fs μ' => KE cls fs n μ'))
    (hst : starEach (e :: es) X.env = (false, eval e X.env) :: starEach es X.env := by rfl) (hpl : (backTo pos (starEach es X.env)).any (·.1) = false := by rfl)
    (ht : eval (.Call (.Attribute o m apos) (e :: es) [] pos) X.env = (do
      let ov ← eval o X.env
      standAt apos.atName
      let (f, first) ← holding [ov] (getMethod ov m pl)
      callWith pos f first (backTo pos (starEach (e :: es) X.env)) (backToKw pos (keywordEach [] X.env))) := by rfl) :
    JE X W KE (.Call (.Attribute o m apos) (e :: es) [] pos) n μ k := fun σ H Q ev rp t q pins s I => by
  refine PySem.W.methodCall_KW (pl := pl) (thn (h σ H (fun v H1 => ∃ d μ1, (∃ C fs S dvs j, InsD μ1 d C fs ∧ fs.lookup m = none ∧ DMet X.prog X.w X.K X.mg X.base j C m S dvs ∧ j ≤ kl ∧ JA X W KE (e :: es) n μ1 fun args μ2 => S (d :: (args ++ dvs)) μ2 k (fun cls fs μ' => KE cls fs n μ')) ∧ Step μ H μ1 H1 ∧ Rep X.K μ1 H1 ∧ DRep X.K μ1 H1 v d) ev rp t (fun v d H1 μ1 h1 s1 r1 d1 => ⟨d, μ1, h1, s1, r1, d1⟩) pins s I) fun u s1 ⟨v, H1, I1, rx, d, μ1, ⟨C, fs, S, dvs, j, i1, l1, F, hj, h1⟩, st1, r1, d1⟩ => ?_) ht
  obtain ⟨a, dx, vf, rfl, ea, fr⟩ := i1.rep r1 d1
  obtain rfl : u = Value.ref a := rx
  obtain ⟨f, F, cl, hm⟩ := F.ex
  refine getmeth_ok I1 ea cl hm (fr.none l1) ?_
  refine PySem.W.callWith_K (first := [.ref a]) (h₀ := X.base) I.ok.mod.kin hm.kp (thn (h1 σ H1 (fun vs H2 => ∃ args μ2, S (d :: (args ++ dvs)) μ2 k (fun cls fs μ' => KE cls fs n μ') ∧ Step μ1 H1 μ2 H2 ∧ Rep X.K μ2 H2 ∧ DReps X.K μ2 H2 vs args) (ev.step st1) r1 (t.step st1) (fun us xs H2 μ2 h2 s2 r2 d2 => ⟨xs, μ2, h2, s2, r2, d2⟩) pos pins s1 I1) fun us s2 ⟨vs, H2, I2, r, args, μ2, h2, st2, r2, d2⟩ => ⟨I2.kIn, ?_⟩) hst hpl
  have s12 := st1.trans st2
  exact run_data (us := .ref a :: us) (vs := .ref a :: vs) (args := d :: args) c F hj (ev.step s12) r2 (t.step s12) (q.step s12) (.cons (d1.step st2) d2) I2 (.cons rfl r) h2
theorem je_meth0 {pl : Sem Bool} (c : Cok kl X W) (h : JE X W KE o n μ fun d μ1 => ∃ C fs S dvs j, InsD μ1 d C fs ∧ fs.lookup m = none ∧ DMet X.prog X.w X.K X.mg X.base j C m S dvs ∧ j ≤ kl ∧ S (d :: dvs) μ1 k (fun cls fs μ' => KE cls fs n μ'))
    (ht : eval (.Call (.Attribute o m apos) [] [] pos) X.env = (do
      let ov ← eval o X.env
      standAt apos.atName
      let (f, first) ← holding [ov] (getMethod ov m pl)
      callWith pos f first (backTo pos (starEach [] X.env)) (backToKw pos (keywordEach [] X.env))) := by rfl) :
    JE X W KE (.Call (.Attribute o m apos) [] [] pos) n μ k := fun σ H Q ev rp t q pins s I => by
  refine PySem.W.methodCall_KW (pl := pl) (thn (h σ H (fun v H1 => ∃ d μ1, (∃ C fs S dvs j, InsD μ1 d C fs ∧ fs.lookup m = none ∧ DMet X.prog X.w X.K X.mg X.base j C m S dvs ∧ j ≤ kl ∧ S (d :: dvs) μ1 k (fun cls fs μ' => KE cls fs n μ')) ∧ Step μ H μ1 H1 ∧ Rep X.K μ1 H1 ∧ DRep X.K μ1 H1 v d) ev rp t (fun v d H1 μ1 h1 s1 r1 d1 => ⟨d, μ1, h1, s1, r1, d1⟩) pins s I) fun u s1 ⟨v, H1, I1, rx, d, μ1, ⟨C, fs, S, dvs, j, i1, l1, F, hj, h1⟩, st1, r1, d1⟩ => ?_) ht
  obtain ⟨a, dx, vf, rfl, ea, fr⟩ := i1.rep r1 d1
  obtain rfl : u = Value.ref a := rx
  obtain ⟨f, F, cl, hm⟩ := F.ex
  refine getmeth_ok I1 ea cl hm (fr.none l1) ?_
  exact PySem.W.callWith_K0 (first := [.ref a]) I1.kIn hm.kp (run_data (us := [.ref a]) (vs := [.ref a]) (args := [d]) c F hj (ev.step st1) r1 (t.step st1) (q.step st1) (.one d1) I1 (.cons rfl .nil) h1)
/-- the new object as it is from now on: mutable, or data -/
def MkEnd (μ : M) (a : Addr) (k : DK) : Prop := k (.obj a) μ ∨ ∃ C fs, μ a = some (.ins C fs) ∧ k (.ins C fs) (delM μ a)
theorem run_makeSD {CX : CXT} {k : Nat} {f C : Addr} {fd : FuncData} {ps : List Str} {sp : Sp} {dv : List V} {ds : List Value} {E : XK} {pins : List (Addr × Obj)} {σ : L2.St} {H : Hp} {s : Shared} {Q : VK} {us : List Value} {vs : List V} (M : Mk X.K C f) (F : FnOk X.prog X.w X.K X.mg X.base CX k f fd ps sp) (hr : Room (k + 1) X.A) (hb : Binds X.K fd ps ds) (hd : Vals dv ds)
    (hx : PassesAt CX X σ E) (I : Inv X pins σ H s) (r : Vals vs us)
    (h : ∀ x dx, H x = none → H dx = none → dx ≠ x → sp (.ref x :: (vs ++ dv)) (upd (upd H dx (.own x)) x (.ins C dx [])) (fun v H2 => v = .non ∧ Q (.ref x) H2) E) :
    wpAny (model X.prog X.w) X.A (call (.ref C) us) (EP X pins σ Q) X.xe s := by
  have hq := h (s.heap.objs.size + 1) s.heap.objs.size (I.hok.fresh (Nat.le_succ _)) (I.hok.fresh (Nat.le_refl _)) (Nat.ne_of_lt (Nat.lt_succ_self _))
  have I2 := Inv.made (C := C) I
  have r2 : Vals (V.ref (s.heap.objs.size + 1) :: (vs ++ dv)) (Value.ref (s.heap.objs.size + 1) :: (us ++ ds)) := .cons rfl (r.append hd)
  have hl : (Value.ref (s.heap.objs.size + 1) :: us ++ ds).length = ps.length := by
    have e := r2.length
    rw [F.len _ _ _ _ hq] at e
    exact e.symm
  refine wpAny_call (make_map (f := f) I.kIn M.makes M.init (beq_iff_eq.mp M.fn) (codeAny_mono (F.run _ X.stack _ _ ⟨Value.ref (s.heap.objs.size + 1) :: us, []⟩ (Value.ref (s.heap.objs.size + 1) :: (us ++ ds)) _ _ E (hr.make C us [])
    (I2.env0.make C us []) (hb _ (Value.ref (s.heap.objs.size + 1) :: us) I2.kIn hl) r2 hq) fun r s' hq' => ?_))
  cases r with
  | error e => exact hx pins _ _ e s' I2 hq'
  | ok fl =>
    cases fl with
    | ret u =>
      obtain ⟨v, H', I3, rv, ev, q3⟩ := I2.after hq'
      subst ev
      exact ⟨rv, ⟨V.ref (s.heap.objs.size + 1), H', I3, rfl, q3⟩⟩
    | next => exact False.elim hq'
    | brk => exact False.elim hq'
    | cont => exact False.elim hq'
theorem run_make_data {C : Addr} {args : List Dv} {σ : L2.St} {H : Hp} {Q : VK} {vs : List V} {us : List Value} {pins : List (Addr × Obj)} {s : Shared} {f : Addr} (c : Cok kl X W) (M : Mk X.K C f) (F : DFn X.prog X.w X.K X.mg X.base j f S dvs) (hj : j + 1 ≤ kl) (ev : Env X.K μ H σ n) (rp : Rep X.K μ H) (t : Thr X.K W KE μ H) (q : Tl X.K μ H k Q)
    (d : DReps X.K μ H vs args) (I : Inv X pins σ H s) (r : Vals vs us) (h : ∀ a, μ a = none → S (.obj a :: (args ++ dvs)) (updM μ a (.ins C [])) (fun r μ2 => r = .non ∧ MkEnd μ2 a k) (fun cls fs μ' => KE cls fs n μ')) :
    wpAny (model X.prog X.w) X.A (call (.ref C) us) (EP X pins σ Q) X.xe s := by
  obtain ⟨fd, ps, ds, dv, F, hb, hd, hc⟩ := F.ex
  refine run_makeSD M F (c.room.mono hj) hb hd (passAt c.tk σ) I r fun x dx nx nd ne => ?_
  have sA : Step μ H μ (upd H dx (.own x)) := Step.new nd
  have nx1 : upd H dx (.own x) x = none := by rw [upd_ne ne.symm]; exact nx
  have sB : Step μ (upd H dx (.own x)) (updM μ x (.ins C [])) (upd (upd H dx (.own x)) x (.ins C dx [])) := Step.newM nx1
  have sAB := sA.trans sB
  have r2 : Rep X.K (updM μ x (.ins C [])) (upd (upd H dx (.own x)) x (.ins C dx [])) := (rp.new nd).put sB ⟨dx, [], upd_same, .nil⟩
  refine ⟨.obj x :: (args ++ dvs), _, _, _, .cons (.obj x) ((d.step sAB).append hc.rep), r2, h x (rp.free nx), fun v d' H' μ' hk s1 r1 d1 => ?_, fun cls fs d' H' μ' h1 s1 r1 x1 => ?_⟩
  · obtain ⟨rfl, hk⟩ := hk
    cases d1
    refine ⟨rfl, ?_⟩
    rcases hk with hk | ⟨C', fs, ha, hk⟩
    · exact q _ _ _ _ hk (sAB.trans s1) r1 (.obj x)
    · obtain ⟨dx', vf, e, fr⟩ := r1 _ _ ha
      exact q _ _ _ _ hk ((sAB.trans s1).trans (Step.freeze ha)) (r1.freeze ha) (.ins e delM_same (fr.step (Step.freeze ha)))
  · exact t cls fs d' σ n H' μ' h1 (ev.step (sAB.trans s1)) (sAB.trans s1) r1 x1
theorem je_make {C : Addr} (c : Cok kl X W) (F : DMak X.prog X.w X.K X.mg X.base j x C S dvs) (hj : j + 1 ≤ kl) (h : JA X W KE (e :: es) n μ fun args μ1 => ∀ a, μ1 a = none → S (.obj a :: (args ++ dvs)) (updM μ1 a (.ins C [])) (fun r μ2 => r = .non ∧ MkEnd μ2 a k) (fun cls fs μ' => KE cls fs n μ')) (hg : Gl X x := by rfl)
    (hdb : (x == ("__debug__" : Str)) = false := by decide) (he : starEach (e :: es) X.env = (false, eval e X.env) :: starEach es X.env := by rfl) (hpl : (backTo pos (starEach es X.env)).any (·.1) = false := by rfl) :
    JE X W KE (.Call (.Name x p) (e :: es) [] pos) n μ k := fun σ H Q ev rp t q pins s I => by
  obtain ⟨f, F, M, hm⟩ := F.ex
  refine wpAny_Call_Name_kw (ld_glob I hg hm ?_ hdb)
  refine PySem.W.callWith_K (h₀ := X.base) I.ok.mod.kin M.kp (thn (h σ H (fun vs H1 => ∃ args μ1, (∀ a, μ1 a = none → S (.obj a :: (args ++ dvs)) (updM μ1 a (.ins C [])) (fun r μ2 => r = .non ∧ MkEnd μ2 a k) (fun cls fs μ' => KE cls fs n μ')) ∧ Step μ H μ1 H1 ∧ Rep X.K μ1 H1 ∧ DReps X.K μ1 H1 vs args) ev rp t (fun us xs H1 μ1 h1 s1 r1 d1 => ⟨xs, μ1, h1, s1, r1, d1⟩) pos pins s I) fun us s1 ⟨vs, H1, I1, r, args, μ1, h1, s1, r1, d1⟩ => ⟨I1.kIn, ?_⟩) he hpl
  exact run_make_data c M F hj (ev.step s1) r1 (t.step s1) (q.step s1) d1 I1 r h1
theorem je_make0 {C : Addr} (c : Cok kl X W) (F : DMak X.prog X.w X.K X.mg X.base j x C S dvs) (hj : j + 1 ≤ kl) (h : ∀ a, μ a = none → S (.obj a :: dvs) (updM μ a (.ins C [])) (fun r μ2 => r = .non ∧ MkEnd μ2 a k) (fun cls fs μ' => KE cls fs n μ')) (hg : Gl X x := by rfl) (hdb : (x == ("__debug__" : Str)) = false := by decide) :
    JE X W KE (.Call (.Name x p) [] [] pos) n μ k := fun σ H Q ev rp t q pins s I => by
  obtain ⟨f, F, M, hm⟩ := F.ex
  refine wpAny_Call_Name_kw (ld_glob I hg hm ?_ hdb)
  exact PySem.W.callWith_K0 I.kIn M.kp (run_make_data (us := []) (args := []) c M F hj ev rp t q .nil I .nil h)

/-! ### built-in functions -/
theorem je_cB {id : String} {r : List V → Hp → VK → Prop} (hc : CallR X (.builtin id) r) (hm : X.mg x = none) (hv : bootBuiltins x = some (.builtin id)) (h : JA X W KE (e :: es) n μ fun xs μ1 => DCl X.K r xs μ1 k) (hg : Gl X x := by rfl) (hn : x ≠ "__name__" := by decide)
    (hdb : (x == ("__debug__" : Str)) = false := by decide) (he : starEach (e :: es) X.env = (false, eval e X.env) :: starEach es X.env := by rfl) (hpl : (backTo pos (starEach es X.env)).any (·.1) = false := by rfl) : JE X W KE (.Call (.Name x p) (e :: es) [] pos) n μ k :=
  je_of (pe_callB hc hg hm hv paC hn hdb he hpl) fun σ H Q ev rp t q => by
    refine h σ H _ ev rp t fun us xs H1 μ1 h1 s1 r1 d1 => ?_
    exact h1 us H1 Q r1 d1 (q.step s1)
theorem je_cT {T : String} {r : List V → Hp → VK → Prop} (hc : CallR X (.type T) r) (hm : X.mg x = none) (hv : bootBuiltins x = some (.type T)) (h : JA X W KE (e :: es) n μ fun xs μ1 => DCl X.K r xs μ1 k) (hg : Gl X x := by rfl) (hn : x ≠ "__name__" := by decide)
    (hdb : (x == ("__debug__" : Str)) = false := by decide) (he : starEach (e :: es) X.env = (false, eval e X.env) :: starEach es X.env := by rfl) (hpl : (backTo pos (starEach es X.env)).any (·.1) = false := by rfl) : JE X W KE (.Call (.Name x p) (e :: es) [] pos) n μ k :=
  je_of (pe_callTy hc hg hm hv paC hn hdb he hpl) fun σ H Q ev rp t q => by
    refine h σ H _ ev rp t fun us xs H1 μ1 h1 s1 r1 d1 => ?_
    exact h1 us H1 Q r1 d1 (q.step s1)
def rLenA (K : Kf) : List V → Hp → VK → Prop := fun xs H Q => (∃ p ys, xs = [.ref p] ∧ (SqL K H p ys ∨ SqT K H p ys) ∧ Q (.int ys.length) H) ∨ ∃ z, xs = [.str z] ∧ z.length ≤ sizeLine ∧ Q (.int z.length) H
theorem call_lenA : CallR X (.builtin "len") (rLenA X.K) := CallR.or call_len_seq call_len_str
theorem d_lenL {x : Dv} {xs : List Dv} (l : SqD μ x xs) (h : k (.int xs.length) μ) : DCl K (rLenA K) [x] μ k := fun us H Q r d t => by
  cases d with
  | cons d0 d1 =>
    cases d1
    obtain ⟨a, vs, rfl, ha, ra⟩ := l.rep r d0
    exact .inl ⟨a, vs, rfl, .inl ha, tl_pure t h r (by rw [ra.length]; exact .int _)⟩
theorem d_lenT {xs : List Dv} (h : k (.int xs.length) μ) : DCl K (rLenA K) [.tup xs] μ k := fun us H Q r d t => by
  cases d with
  | cons d0 d1 =>
    cases d1
    obtain ⟨a, vs, rfl, ha, ra⟩ := tup_rep d0
    exact .inl ⟨a, vs, rfl, .inr (SqT.of ha), tl_pure t h r (by rw [ra.length]; exact .int _)⟩
theorem d_lenS {z : Str} (hz : z.length ≤ sizeLine) (h : k (.int z.length) μ) : DCl K (rLenA K) [.str z] μ k := fun us H Q r d t => by
  cases d with
  | cons d0 d1 =>
    cases d1; cases d0
    exact .inr ⟨z, rfl, hz, tl_pure t h r (.int _)⟩
theorem d_max2 {i j : Int} (h : k (.int (max i j)) μ) : DCl K (fun xs H Q => ∃ i j, xs = [V.int i, .int j] ∧ Q (.int (if j > i then j else i)) H) [.int i, .int j] μ k := fun us H Q r d t => by
  cases d with
  | cons d0 d1 =>
    cases d1 with
    | cons d1 d2 =>
      cases d2; cases d0; cases d1
      have e : (if j > i then j else i) = max i j := by omega
      exact ⟨i, j, rfl, by rw [e]; exact tl_pure t h r (.int _)⟩
theorem d_min2 {i j : Int} (h : k (.int (min i j)) μ) : DCl K (fun xs H Q => ∃ i j, xs = [V.int i, .int j] ∧ Q (.int (if j < i then j else i)) H) [.int i, .int j] μ k := fun us H Q r d t => by
  cases d with
  | cons d0 d1 =>
    cases d1 with
    | cons d1 d2 =>
      cases d2; cases d0; cases d1
      have e : (if j < i then j else i) = min i j := by omega
      exact ⟨i, j, rfl, by rw [e]; exact tl_pure t h r (.int _)⟩
theorem d_sum {x : Dv} {ns : List Int} (l : SqD μ x (ns.map Dv.int)) (h : k (.int ns.sum) μ) : DCl K (rSum K) [x] μ k := fun us H Q r d t => by
  cases d with
  | cons d0 d1 =>
    cases d1
    obtain ⟨a, vs, rfl, ha, ra⟩ := l.rep r d0
    have e := ra.ints
    subst e
    exact ⟨a, ns, rfl, ha, tl_pure t h r (.int _)⟩
theorem d_maxL {x : Dv} {ns : List Int} (l : SqD μ x (ns.map Dv.int)) (hn : 0 < ns.length) (h : ∀ m, m ∈ ns → (∀ y ∈ ns, y ≤ m) → k (.int m) μ) : DCl K (rMax K) [x] μ k := fun us H Q r d t => by
  cases d with
  | cons d0 d1 =>
    cases d1
    obtain ⟨a, vs, rfl, ha, ra⟩ := l.rep r d0
    have e := ra.ints
    subst e
    exact ⟨a, ns, rfl, ha, hn, fun m h1 h2 => tl_pure t (h m h1 h2) r (.int _)⟩
theorem d_minL {x : Dv} {ns : List Int} (l : SqD μ x (ns.map Dv.int)) (hn : 0 < ns.length) (h : ∀ m, m ∈ ns → (∀ y ∈ ns, m ≤ y) → k (.int m) μ) : DCl K (rMin K) [x] μ k := fun us H Q r d t => by
  cases d with
  | cons d0 d1 =>
    cases d1
    obtain ⟨a, vs, rfl, ha, ra⟩ := l.rep r d0
    have e := ra.ints
    subst e
    exact ⟨a, ns, rfl, ha, hn, fun m h1 h2 => tl_pure t (h m h1 h2) r (.int _)⟩
theorem d_all {x : Dv} {bs : List Bool} (l : SqD μ x (bs.map Dv.bl)) (h : k (.bl (bs.all id)) μ) : DCl K (rAll K) [x] μ k := fun us H Q r d t => by
  cases d with
  | cons d0 d1 =>
    cases d1
    obtain ⟨a, vs, rfl, ha, ra⟩ := l.rep r d0
    have e := ra.bls
    subst e
    exact ⟨a, bs, rfl, ha, tl_pure t h r (.bl _)⟩
theorem d_listOf {x : Dv} {xs : List Dv} (l : SqD μ x xs) (h : k (.lst xs) μ) : DCl K (fun ys H Q => ∃ p zs, ys = [V.ref p] ∧ (SqL K H p zs ∨ SqT K H p zs) ∧ ∀ l, H l = none → Q (.ref l) (upd H l (.lst zs))) [x] μ k := fun us H Q r d t => by
  cases d with
  | cons d0 d1 =>
    cases d1
    obtain ⟨a, vs, rfl, ha, ra⟩ := l.rep r d0
    exact ⟨a, vs, rfl, .inl ha, fun p hp => tl_new t h r hp (.lst upd_same (r.free hp) (ra.step (Step.new hp)))⟩
theorem d_listOfT {xs : List Dv} (h : k (.lst xs) μ) : DCl K (fun ys H Q => ∃ p zs, ys = [V.ref p] ∧ (SqL K H p zs ∨ SqT K H p zs) ∧ ∀ l, H l = none → Q (.ref l) (upd H l (.lst zs))) [.tup xs] μ k := fun us H Q r d t => by
  cases d with
  | cons d0 d1 =>
    cases d1
    obtain ⟨a, vs, rfl, ha, ra⟩ := tup_rep d0
    exact ⟨a, vs, rfl, .inr (SqT.of ha), fun p hp => tl_new t h r hp (.lst upd_same (r.free hp) (ra.step (Step.new hp)))⟩
/-- int(..) of an int, a bool -/
theorem d_intI {i : Int} (h : k (.int i) μ) : DCl K (fun xs H Q => (∃ i, xs = [V.int i] ∧ Q (.int i) H) ∨ ∃ k, xs = [.bl k] ∧ Q (.int (if k then 1 else 0)) H) [.int i] μ k := fun us H Q r d t => by
  cases d with
  | cons d0 d1 =>
    cases d1; cases d0
    exact .inl ⟨i, rfl, tl_pure t h r (.int _)⟩
theorem d_intB {i : Bool} (h : k (.int (if i then 1 else 0)) μ) : DCl K (fun xs H Q => (∃ i, xs = [V.int i] ∧ Q (.int i) H) ∨ ∃ k, xs = [.bl k] ∧ Q (.int (if k then 1 else 0)) H) [.bl i] μ k := fun us H Q r d t => by
  cases d with
  | cons d0 d1 =>
    cases d1; cases d0
    exact .inr ⟨i, rfl, tl_pure t h r (.int _)⟩
/-- isinstance -/
inductive TyD (K : Kf) (μ : M) : Dv → Value → Prop where
  | non : TyD K μ .non (.type "NoneType")
  | bl (b : Bool) : TyD K μ (.bl b) (.type "bool")
  | int (i : Int) : TyD K μ (.int i) (.type "int")
  | str (x : Str) : TyD K μ (.str x) (.type "str")
  | lst (xs : List Dv) : TyD K μ (.lst xs) (.type "list")
  | tup (xs : List Dv) : TyD K μ (.tup xs) (.type "tuple")
  | lstM {a : Addr} {xs : List Dv} (h : μ a = some (.lst xs)) : TyD K μ (.obj a) (.type "list")
  | dicM {a : Addr} {xs : List (Key × Dv)} (h : μ a = some (.dic xs)) : TyD K μ (.obj a) (.type "dict")
  | ins {d : Dv} {C : Addr} {fs : List (Str × Dv)} (i : InsD μ d C fs) (cl : Cls K C) (ha : PySem.W.findIn K (.ref C) "__class__" = some (some (.builtin "object.__class__")))
      (hn : PySem.W.specialIn K (.builtin "object.__class__") "__get__" = some (some (.builtin "getset_descriptor.__get__"))) (htk : PySem.W.takesIn K (.builtin "object.__class__") = some true)
      (hm : PySem.W.mroIn K C (.type "object") = some true) : TyD K μ d (.ref C)
theorem TyD.rep {x : Dv} {t : Value} {H : Hp} {u : V} (h : TyD K μ x t) (r : Rep K μ H) (d : DRep K μ H u x) : TyX K H u t := by
  cases h with
  | non => cases d; exact .base .non
  | bl b => cases d; exact .base (.bl b)
  | int b => cases d; exact .base (.int b)
  | str b => cases d; exact .base (.str b)
  | lst xs => cases d with | lst h n r => exact .base (.lst h)
  | tup xs => cases d with | tup h n r => exact .base (.tup h)
  | lstM h => cases d; obtain ⟨vs, e, _⟩ := r _ _ h; exact .base (.lst e)
  | dicM h => cases d; obtain ⟨vs, e, _⟩ := r _ _ h; exact .base (.dK e)
  | ins i cl ha hn htk hm =>
    obtain ⟨a, dx, vs, rfl, e, _⟩ := i.rep r d
    exact .base (.ins e cl ha hn htk hm)
/-- a class as data -/
inductive ClD : Dv → Value → Prop where
  | ty (n : String) : ClD (.ty n) (.type n)
  | own (C : Addr) : ClD (.obj C) (.ref C)
theorem ClD.rep {c : Dv} {u : Value} {v : V} {H : Hp} (h : ClD c u) (d : DRep K μ H v c) : ClsV v u := by
  cases h with
  | ty n => cases d; exact .ty n
  | own C => cases d; exact .own C
inductive ClDs : List Dv → List Value → Prop where
  | nil : ClDs [] []
  | cons {c : Dv} {u : Value} {cs : List Dv} {us : List Value} (h : ClD c u) (t : ClDs cs us) : ClDs (c :: cs) (u :: us)
theorem ClDs.rep {H : Hp} : ∀ {cs : List Dv} {us : List Value} {vs : List V}, ClDs cs us → DReps K μ H vs cs → Paired ClsV vs us
  | _, _, _, .nil, .nil => .nil
  | _, _, _, .cons h t, .cons d r => .cons (h.rep d) (t.rep r)
def rIsiA (K : Kf) : List V → Hp → VK → Prop := fun xs H Q => rIsi K xs H Q ∨ rIsiT K xs H Q
theorem call_isiA : CallR X (.builtin "isinstance") (rIsiA X.K) := CallR.or call_isi call_isiT
theorem d_isi {x c : Dv} {t u : Value} {b : Bool} (hx : TyD K μ x t) (hc : ClD c u) (hb : PySem.W.kitOne K t u = some b) (h : k (.bl b) μ) : DCl K (rIsiA K) [x, c] μ k := fun us H Q r d q => by
  cases d with
  | cons d0 d1 =>
    cases d1 with
    | cons d1 d2 =>
      cases d2
      exact .inl ⟨_, _, t, u, b, rfl, hc.rep d1, hx.rep r d0, hb, tl_pure q h r (.bl _)⟩
theorem d_isiT {x : Dv} {cs : List Dv} {t : Value} {us : List Value} {b : Bool} (hx : TyD K μ x t) (hc : ClDs cs us) (hb : PySem.W.kitAny K t us = some b) (h : k (.bl b) μ) : DCl K (rIsiA K) [x, .tup cs] μ k := fun vs H Q r d q => by
  cases d with
  | cons d0 d1 =>
    cases d1 with
    | cons d1 d2 =>
      cases d2
      obtain ⟨a, ws, rfl, ha, ra⟩ := tup_rep d1
      exact .inr ⟨_, a, ws, t, us, b, rfl, ha, hc.rep ra, hx.rep r d0, hb, tl_pure q h r (.bl _)⟩
/-- xs.append(e), xs a mutable list -/
theorem je_append (h : JE X W KE o n μ fun d μ1 => ∃ a, d = .obj a ∧ (∃ xs, μ1 a = some (.lst xs)) ∧ JE X W KE e n μ1 fun y μ2 => ∃ xs, μ2 a = some (.lst xs) ∧ xs.length < sizeLine ∧ k .non (updM μ2 a (.lst (xs ++ [y]))))
    (hs : starEach [e] X.env = (false, eval e X.env) :: starEach [] X.env := by rfl)
    (ht : PE X (.Call (.Attribute o "append" apos) [e] [] pos) (tBM X.K "list" rAppend (cE X o) (cA X [e])) := by exact pe_bm PySem.F.plainAttrs_list PySem.F.slot_list_append PySem.F.type_list_append mt_append peC paC) :
    JE X W KE (.Call (.Attribute o "append" apos) [e] [] pos) n μ k :=
  je_of ht fun σ H Q ev rp t q => by
    refine h σ H _ ev rp t fun u x H1 μ1 h1 s1 r1 d1 => ?_
    obtain ⟨a, rfl, ⟨xs0, hx0⟩, h1⟩ := h1
    cases d1
    obtain ⟨vs0, e0, _⟩ := r1 _ _ hx0
    refine ⟨.inl ⟨rfl, _, SqL.of e0⟩, ?_⟩
    have h1' : JA X W KE [e] n μ1 fun ys μ2 => ∃ y, ys = [y] ∧ ∃ xs, μ2 a = some (.lst xs) ∧ xs.length < sizeLine ∧ k .non (updM μ2 a (.lst (xs ++ [y]))) := ja_one (h1.mono fun y μ2 z => ⟨y, rfl, z⟩) hs
    refine h1' σ H1 _ (ev.step s1) r1 (t.step s1) fun us ys H2 μ2 h2 s2 r2 d2 => ?_
    obtain ⟨y, rfl, xs, hx, hl, hk⟩ := h2
    cases d2 with
    | cons dy dn =>
      rename_i w _
      cases dn
      obtain ⟨vs, e2, rx⟩ := r2 _ _ hx
      have s3 := Step.mut (H := H2) (o := .lst (vs ++ [w])) (u := .lst (xs ++ [y])) hx
      exact ⟨a, vs, w, rfl, rfl, e2, by rw [rx.length]; exact hl, q _ _ _ _ hk ((s1.trans s2).trans s3) (r2.put s3 ⟨_, upd_same, (rx.step s3).append (.one (dy.step s3))⟩) .non⟩
end
end DL

/-! ## Statements, loops, comprehensions, defs -/
namespace DL
open PySem PySem.Spec L2

/-- what is wanted behind a statement, over data -/
structure Ed where
  nx : En → M → Prop
  rt : DK
  bk : En → M → Prop := fun _ _ => False
  ct : En → M → Prop := fun _ _ => False
structure TlS (K : Kf) (μ : M) (H : Hp) (P : Ed) (D : Ends) : Prop where
  nx : ∀ σ' e' H' μ', P.nx e' μ' → Env K μ' H' σ' e' → Step μ H μ' H' → Rep K μ' H' → D.nx σ' H'
  rt : Tl K μ H P.rt D.rt
  bk : ∀ σ' e' H' μ', P.bk e' μ' → Env K μ' H' σ' e' → Step μ H μ' H' → Rep K μ' H' → D.bk σ' H'
  ct : ∀ σ' e' H' μ', P.ct e' μ' → Env K μ' H' σ' e' → Step μ H μ' H' → Rep K μ' H' → D.ct σ' H'
theorem TlS.step {K : Kf} {μ μ1 : M} {H H1 : Hp} {P : Ed} {D : Ends} (s : Step μ H μ1 H1) (t : TlS K μ H P D) : TlS K μ1 H1 P D :=
  ⟨fun σ' e' H' μ' a b c => t.nx σ' e' H' μ' a b (s.trans c), t.rt.step s, fun σ' e' H' μ' a b c => t.bk σ' e' H' μ' a b (s.trans c), fun σ' e' H' μ' a b c => t.ct σ' e' H' μ' a b (s.trans c)⟩
section
variable (X : Cx) (W : WX) (KE : XD)
def JS (st : Stmt) (n : En) (μ : M) (P : Ed) : Prop := ∀ (σ : L2.St) (H : Hp) (D : Ends), Env X.K μ H σ n → Rep X.K μ H → Thr X.K W KE μ H → TlS X.K μ H P D → cS X st D σ H
def JB (st : List Stmt) (n : En) (μ : M) (P : Ed) : Prop := ∀ (σ : L2.St) (H : Hp) (D : Ends), Env X.K μ H σ n → Rep X.K μ H → Thr X.K W KE μ H → TlS X.K μ H P D → cB X st D σ H
end
section
variable {X : Cx} {W : WX} {KE : XD} {e a b c o : Expr} {es rest : List Expr} {st : Stmt} {sts A B : List Stmt} {n : En} {μ : M} {k : DK} {P : Ed} {pos pos' p apos : Pos} {x m f : Str} {K : Kf} {kl j i : Nat}
theorem js_of {t : TS} (h : PS X st t) (q : ∀ (σ : L2.St) (H : Hp) (D : Ends), Env X.K μ H σ n → Rep X.K μ H → Thr X.K W KE μ H → TlS X.K μ H P D → t D σ H) : JS X W KE st n μ P := fun σ H D a b c d pins s I => h.run pins s σ H D I (q σ H D a b c d)
theorem jb_of {t : TS} (h : PSs X sts t) (q : ∀ (σ : L2.St) (H : Hp) (D : Ends), Env X.K μ H σ n → Rep X.K μ H → Thr X.K W KE μ H → TlS X.K μ H P D → t D σ H) : JB X W KE sts n μ P := fun σ H D a b c d pins s I => h.run pins s σ H D I (q σ H D a b c d)
theorem tls_now {σ : L2.St} {H : Hp} {D : Ends} (t : TlS X.K μ H P D) (h : P.nx n μ) (ev : Env X.K μ H σ n) (r : Rep X.K μ H) : D.nx σ H := t.nx σ n H μ h ev (Step.refl _ _) r
theorem jb_nil (h : P.nx n μ) : JB X W KE [] n μ P := jb_of pss_nil fun σ H D ev rp t q => tls_now q h ev rp
theorem jb_cons (h : JS X W KE st n μ { P with nx := fun n' μ' => JB X W KE sts n' μ' P }) (ht : True := trivial) : JB X W KE (st :: sts) n μ P :=
  jb_of (pss_cons psC pbC) fun σ H D ev rp t q => by
    refine h σ H { D with nx := cB X sts D } ev rp t ⟨fun σ' e' H' μ' h1 ev1 s1 r1 => ?_, q.rt, q.bk, q.ct⟩
    exact h1 σ' H' D ev1 r1 (t.step s1) (q.step s1)
theorem jb_one (h : JS X W KE st n μ P) : JB X W KE [st] n μ P := jb_of (pss_one psC) fun σ H D ev rp t q => h σ H D ev rp t q
theorem JB.le {n' : En} (h : JB X W KE sts n' μ P) (l : LeE n n') : JB X W KE sts n μ P := fun σ H D ev rp t q => h σ H D (ev.le l) rp t q
theorem JS.mono {P' : Ed} (h : JS X W KE st n μ P) (h1 : ∀ a b, P.nx a b → P'.nx a b) (h2 : ∀ a b, P.rt a b → P'.rt a b) (h3 : ∀ a b, P.bk a b → P'.bk a b) (h4 : ∀ a b, P.ct a b → P'.ct a b) : JS X W KE st n μ P' := fun σ H D ev rp t q =>
  h σ H D ev rp t ⟨fun _ _ _ _ z => q.nx _ _ _ _ (h1 _ _ z), fun _ _ _ _ z => q.rt _ _ _ _ (h2 _ _ z), fun _ _ _ _ z => q.bk _ _ _ _ (h3 _ _ z), fun _ _ _ _ z => q.ct _ _ _ _ (h4 _ _ z)⟩
theorem JB.mono {P' : Ed} (h : JB X W KE sts n μ P) (h1 : ∀ a b, P.nx a b → P'.nx a b) (h2 : ∀ a b, P.rt a b → P'.rt a b) (h3 : ∀ a b, P.bk a b → P'.bk a b) (h4 : ∀ a b, P.ct a b → P'.ct a b) : JB X W KE sts n μ P' := fun σ H D ev rp t q =>
  h σ H D ev rp t ⟨fun _ _ _ _ z => q.nx _ _ _ _ (h1 _ _ z), fun _ _ _ _ z => q.rt _ _ _ _ (h2 _ _ z), fun _ _ _ _ z => q.bk _ _ _ _ (h3 _ _ z), fun _ _ _ _ z => q.ct _ _ _ _ (h4 _ _ z)⟩
theorem js_pass (h : P.nx n μ) : JS X W KE (.Pass pos) n μ P := js_of ps_pass fun σ H D ev rp t q => tls_now q h ev rp
theorem js_break (h : P.bk n μ) : JS X W KE (.Break pos) n μ P := js_of ps_break fun σ H D ev rp t q => q.bk σ n H μ h ev (Step.refl _ _) rp
theorem js_continue (h : P.ct n μ) : JS X W KE (.Continue pos) n μ P := js_of ps_continue fun σ H D ev rp t q => q.ct σ n H μ h ev (Step.refl _ _) rp
theorem js_set (i : Nat) (c : Cok kl X W) (hi : X.N[i]? = some x) (h : JE X W KE e n μ fun d μ' => P.nx (n.set i (some d)) μ') (hx : Loc X.env.scope x := by first | exact Or.inl rfl | exact Or.inr rfl)
    (hs : swapsWith e (some (.Name x pos')) pos.line X.env = pure false := by rfl) (hf : X.fn x = true ∨ X.env.scope.names.lookup x = some .local := by first | exact .inl rfl | exact .inr rfl) : JS X W KE (.Assign [.Name x pos'] e pos) n μ P :=
  js_of (ps_set c.nd hi hx peC hs hf) fun σ H D ev rp t q => by
    refine h σ H _ ev rp t fun v d H1 μ1 h1 s1 r1 d1 => ?_
    exact q.nx _ _ _ _ h1 ((ev.step s1).set d1 i) s1 r1
theorem js_expr (h : JE X W KE e n μ fun _ μ' => P.nx n μ') (hs : swapsWith e none pos.line X.env = pure false := by rfl) : JS X W KE (.Expr e pos) n μ P :=
  js_of (ps_expr peC hs) fun σ H D ev rp t q => by
    refine h σ H _ ev rp t fun v d H1 μ1 h1 s1 r1 d1 => ?_
    exact q.nx _ _ _ _ h1 (ev.step s1) s1 r1
theorem js_ret (h : JE X W KE e n μ P.rt) : JS X W KE (.Return (some e) pos) n μ P := js_of (ps_ret peC) fun σ H D ev rp t q => h σ H _ ev rp t q.rt
theorem js_retN (h : P.rt .non μ) : JS X W KE (.Return none pos) n μ P := js_of ps_retN fun σ H D ev rp t q => tl_pure q.rt h rp .non
theorem js_if (h : JT X W KE c n μ fun b μ' => (b = true → JB X W KE A n μ' P) ∧ (b = false → JB X W KE B n μ' P)) : JS X W KE (.If c A B pos) n μ P :=
  js_of (ps_if ptC pbC pbC) fun σ H D ev rp t q => by
    refine h σ H _ ev rp t fun u H1 μ1 h1 s1 r1 => ?_
    cases u with
    | true => rw [if_pos rfl]; exact h1.1 rfl σ H1 D (ev.step s1) r1 (t.step s1) (q.step s1)
    | false => rw [if_neg Bool.false_ne_true]; exact h1.2 rfl σ H1 D (ev.step s1) r1 (t.step s1) (q.step s1)
theorem js_augI (i : Nat) {op : Operator} {g : Int → Int → Int} {z : Int} (c : Cok kl X W) (hi : X.N[i]? = some x) (ho : PIp X op (ipI g)) (hn : n[i]? = some (some (.int z))) (h : JE X W KE e n μ fun d μ' => ∃ y, d = .int y ∧ P.nx (n.set i (some (.int (g z y)))) μ')
    (hx : Loc X.env.scope x := by first | exact Or.inl rfl | exact Or.inr rfl) (hf : X.fn x = true ∨ X.env.scope.names.lookup x = some .local := by first | exact .inl rfl | exact .inr rfl) : JS X W KE (.AugAssign (.Name x pos') op e pos) n μ P :=
  js_of (ps_aug c.nd hi hx peC ho hf) fun σ H D ev rp t q => by
    obtain ⟨v, h1, h2⟩ := ev.2 i _ hn
    cases h2
    refine ⟨.int z, h1, ?_⟩
    refine h σ H _ ev rp t fun w d H1 μ1 h1 s1 r1 d1 => ?_
    obtain ⟨y, rfl, h3⟩ := h1
    cases d1
    exact ⟨z, y, rfl, rfl, q.nx _ _ _ _ h3 ((ev.step s1).set (.int _) i) s1 r1⟩
/-- o.f = e, o a mutable instance -/
theorem js_fld (h : JE X W KE e n μ fun y μ1 => JE X W KE o n μ1 fun d μ2 => ∃ a C fs, d = .obj a ∧ μ2 a = some (.ins C fs) ∧ Cls X.K C ∧ NoAttr X.K C f ∧ fs.length < 1000 ∧ P.nx n (updM μ2 a (.ins C (putD f y fs))))
    (hs : swapsWith e (some (.Attribute o f pos')) pos.line X.env = pure false := by rfl) : JS X W KE (.Assign [.Attribute o f pos'] e pos) n μ P :=
  js_of (ps_fld peC peC hs) fun σ H D ev rp t q => by
    refine h σ H _ ev rp t fun w y H1 μ1 h1 s1 r1 d1 => ?_
    refine h1 σ H1 _ (ev.step s1) r1 (t.step s1) fun u d H2 μ2 h2 s2 r2 d2 => ?_
    obtain ⟨a, C, fs, rfl, ha, cl, na, hl, hk⟩ := h2
    cases d2
    obtain ⟨dx, vs, e2, fr⟩ := r2 _ _ ha
    refine ⟨a, C, dx, vs, rfl, e2, cl, na, by rw [fr.length]; exact hl, ?_⟩
    have s3 := Step.mut (H := H2) (o := .ins C dx (putF f w vs)) (u := .ins C (putD f y fs)) ha
    have s123 := (s1.trans s2).trans s3
    exact q.nx _ _ _ _ hk (ev.step s123) s123 (r2.put s3 ⟨dx, _, upd_same, (fr.step s3).put ((d1.step s2).step s3)⟩)
/-- a, b = e and a, b, c = e, e a tuple -/
theorem js_tup2 (i1 i2 : Nat) {x1 x2 : Str} {p1 p2 p3 : Pos} {kk} (c : Cok kl X W) (h1 : X.N[i1]? = some x1) (h2 : X.N[i2]? = some x2)
    (h : JE X W KE e n μ fun d μ' => ∃ d1 d2, d = .tup [d1, d2] ∧ P.nx ((n.set i1 (some d1)).set i2 (some d2)) μ')
    (hl1 : Loc X.env.scope x1 := by first | exact Or.inl rfl | exact Or.inr rfl) (hl2 : Loc X.env.scope x2 := by first | exact Or.inl rfl | exact Or.inr rfl)
    (hf1 : X.fn x1 = true ∨ X.env.scope.names.lookup x1 = some .local := by first | exact .inl rfl | exact .inr rfl) (hf2 : X.fn x2 = true ∨ X.env.scope.names.lookup x2 = some .local := by first | exact .inl rfl | exact .inr rfl)
    (ht : PG X (.Tuple [.Name x1 p1, .Name x2 p2] kk p3) (gTup X.K 2 (gCons (gName i1) (gCons (gName i2) gNil))) := by exact pg_tup (by first | rfl | assumption) (pgs_cons (pg_name (by assumption) (by assumption) (by assumption) (by assumption)) (pgs_cons (pg_name (by assumption) (by assumption) (by assumption) (by assumption)) pgs_nil)))
    (hs : swapsWithSole [.Tuple [.Name x1 p1, .Name x2 p2] kk p3] e pos.line X.env = pure false := by rfl) (hw : swappedStores [.Tuple [.Name x1 p1, .Name x2 p2] kk p3] e X.env = pure none := by rfl)
    (ha : (assignEach [.Tuple [.Name x1 p1, .Name x2 p2] kk p3] X.env).map (·.2) = [assign (.Tuple [.Name x1 p1, .Name x2 p2] kk p3) X.env] := by rfl) : JS X W KE (.Assign [.Tuple [.Name x1 p1, .Name x2 p2] kk p3] e pos) n μ P :=
  js_of (ps_asg peC ht hs hw ha) fun σ H D ev rp t q => by
    refine h σ H _ ev rp t fun w d H1 μ1 h1 s1 r1 q1 => ?_
    obtain ⟨d1, d2, rfl, hk⟩ := h1
    obtain ⟨a, vs, rfl, e1, fr⟩ := tup_rep q1
    cases fr with
    | cons f1 fr =>
      cases fr with
      | cons f2 fr =>
        cases fr
        exact ⟨a, _, rfl, SqT.of e1, rfl, _, _, rfl, _, _, rfl, rfl, q.nx _ _ _ _ hk (((ev.step s1).set f1 i1).set f2 i2) s1 r1⟩

/-! ### what is walked -/
inductive Src where
  | seq (d : Dv) (xs : List Dv) | tup (xs : List Dv) | rng (lo : Int) (n : Nat) | str (z : Str) | rgc (lo c : Int) (n : Nat) | dky (a : Addr) (ks : List Key)
def keyD : Key → Dv
  | .inl i => .int i
  | .inr x => .str x
def Src.items : Src → List Dv
  | .seq _ xs => xs
  | .tup xs => xs
  | .rng lo n => (List.range n).map fun (i : Nat) => .int (lo + (i : Int))
  | .str z => z.cps.toList.map fun c => .str ⟨#[c]⟩
  | .rgc lo c n => (List.range n).map fun (i : Nat) => .int (lo + (i : Int) * c)
  | .dky _ ks => ks.map keyD
/-- the walked thing stands -/
def Src.Ok (μ : M) : Src → Prop
  | .seq d xs => SqD μ d xs
  | .dky a ks => ∃ kvs, μ a = some (.fdc kvs) ∧ kvs.map (·.1) = ks
  | _ => True
def SrcRep (K : Kf) (μ : M) (H : Hp) : Src → It → Prop
  | .seq d xs, J => ∃ a, DRep K μ H (.ref a) d ∧ J = Itl K a
  | .tup xs, J => ∃ a, DRep K μ H (.ref a) (.tup xs) ∧ J = Itt K a
  | .rng lo n, J => J = Itr lo n
  | .str z, J => J = Its z
  | .rgc lo c n, J => J = Itc lo c n
  | .dky a ks, J => ∃ o kvs vs, μ a = some (.fdc kvs) ∧ H a = some (.frz o (.dK vs)) ∧ J = Itk a o vs ∧ vs.map (·.1) = ks
theorem SrcRep.step {μ' : M} {H H' : Hp} {s : Src} {J : It} (st : Step μ H μ' H') (h : SrcRep K μ H s J) : SrcRep K μ' H' s J := by
  cases s with
  | seq d xs => obtain ⟨a, r, e⟩ := h; exact ⟨a, r.step st, e⟩
  | tup xs => obtain ⟨a, r, e⟩ := h; exact ⟨a, r.step st, e⟩
  | rng lo n => exact h
  | str z => exact h
  | rgc lo c n => exact h
  | dky a ks => obtain ⟨o, kvs, vs, e1, e2, e3⟩ := h; exact ⟨o, kvs, vs, (st.l a _ _ e2 e1).2, (st.l a _ _ e2 e1).1, e3⟩
theorem src_turn {H : Hp} {s : Src} {J : It} (h : SrcRep K μ H s J) (r : Rep K μ H) (ok : s.Ok μ) : (s.items.length ≤ i → J.stop i H) ∧ ∀ x, s.items[i]? = some x → J.go i H ∧ ∀ v H', J.yld i H v H' → H' = H ∧ DRep K μ H v x := by
  cases s with
  | seq d xs =>
    obtain ⟨a, rr, rfl⟩ := h
    obtain ⟨a', vs, ea, ha, ra⟩ := (show SqD μ d xs from ok).rep r rr
    cases ea
    refine ⟨fun hl => ⟨vs, ha, by rw [ra.length]; exact hl⟩, fun x hx => ?_⟩
    obtain ⟨v, h1, h2⟩ := ra.get hx
    exact ⟨⟨vs, v, ha, h1⟩, fun v' H' ⟨e, y⟩ => ⟨e, by have := y vs ha; rw [h1] at this; cases this; exact h2⟩⟩
  | tup xs =>
    obtain ⟨a, rr, rfl⟩ := h
    obtain ⟨a', vs, ea, ha, ra⟩ := tup_rep rr
    cases ea
    refine ⟨fun hl => ⟨vs, SqT.of ha, by rw [ra.length]; exact hl⟩, fun x hx => ?_⟩
    obtain ⟨v, h1, h2⟩ := ra.get hx
    exact ⟨⟨vs, v, SqT.of ha, h1⟩, fun v' H' ⟨e, y⟩ => ⟨e, by have := y vs (SqT.of ha); rw [h1] at this; cases this; exact h2⟩⟩
  | rng lo n =>
    cases h
    refine ⟨fun hl => by have z : n ≤ i := by simpa [Src.items] using hl
                         exact z, fun x hx => ?_⟩
    have hx' : ((List.range n).map fun (i : Nat) => Dv.int (lo + (i : Int)))[i]? = some x := hx
    rw [List.getElem?_map] at hx'
    have hi : i < n := by
      by_cases z : i < n
      · exact z
      · rw [List.getElem?_eq_none (by simpa using z)] at hx'; cases hx'
    rw [List.getElem?_range hi] at hx'
    cases hx'
    exact ⟨hi, fun v H' ⟨e, y⟩ => ⟨e, by rw [y]; exact .int _⟩⟩
  | rgc lo c n =>
    cases h
    refine ⟨fun hl => by have z : n ≤ i := by simpa [Src.items] using hl
                         exact z, fun x hx => ?_⟩
    have hx' : ((List.range n).map fun (i : Nat) => Dv.int (lo + (i : Int) * c))[i]? = some x := hx
    rw [List.getElem?_map] at hx'
    have hi : i < n := by
      by_cases z : i < n
      · exact z
      · rw [List.getElem?_eq_none (by simpa using z)] at hx'; cases hx'
    rw [List.getElem?_range hi] at hx'
    cases hx'
    exact ⟨hi, fun v H' ⟨e, y⟩ => ⟨e, by rw [y]; exact .int _⟩⟩
  | dky a ks =>
    obtain ⟨o, kvs, vs, e1, e2, rfl, hk⟩ := h
    subst hk
    refine ⟨fun hl => ⟨e2, by have z : vs.length ≤ i := by simpa [Src.items] using hl
                              exact z⟩, fun x hx => ?_⟩
    have hx' : ((vs.map (·.1)).map keyD)[i]? = some x := hx
    rw [List.getElem?_map, List.getElem?_map] at hx'
    cases ev : vs[i]? with
    | none => rw [ev] at hx'; cases hx'
    | some kv =>
      rw [ev] at hx'
      cases hx'
      refine ⟨⟨e2, (List.getElem?_eq_some_iff.mp ev).1⟩, fun v H' ⟨e, k', v', q1, q2⟩ => ⟨e, ?_⟩⟩
      rw [ev] at q1
      cases q1
      subst q2
      cases k' with
      | inl i => exact .int i
      | inr z => exact .str z
  | str z =>
    cases h
    refine ⟨fun hl => by have y : z.cps.size ≤ i := by simpa [Src.items] using hl
                         exact y, fun x hx => ?_⟩
    have hx' : (z.cps.toList.map fun c => Dv.str ⟨#[c]⟩)[i]? = some x := hx
    rw [List.getElem?_map] at hx'
    cases ec : z.cps.toList[i]? with
    | none => rw [ec] at hx'; cases hx'
    | some c =>
      rw [ec] at hx'
      cases hx'
      have ec' : z.cps[i]? = some c := by simpa using ec
      refine ⟨?_, fun v H' ⟨e, c', q1, q2⟩ => ⟨e, ?_⟩⟩
      · show i < z.cps.size
        exact (Array.getElem?_eq_some_iff.mp ec').1
      · rw [ec'] at q1; cases q1; rw [q2]; exact .str _
def cI (X : Cx) (tg iter : Expr) : TI := fun σ H R => ∀ (pins : List (Addr × Obj)) (s : Shared), Inv X pins σ H s → wpAny (model X.prog X.w) X.A (eval iter X.env) (fun v s1 => wpAny (model X.prog X.w) X.A (pyIter v) (PIE X pins σ tg R) X.xe s1) X.xe s
theorem piC {tg iter : Expr} : PI X tg iter (cI X tg iter) := ⟨fun pins s _ _ _ I h => h pins s I⟩
def JI (X : Cx) (W : WX) (KE : XD) (tg iter : Expr) (n : En) (μ : M) (ks : Src → M → Prop) : Prop := ∀ (σ : L2.St) (H : Hp) (R : It → Hp → Prop), Env X.K μ H σ n → Rep X.K μ H → Thr X.K W KE μ H →
  (∀ s J H' μ', ks s μ' → s.Ok μ' → SrcRep X.K μ' H' s J → Step μ H μ' H' → Rep X.K μ' H' → R J H') → cI X tg iter σ H R
theorem ji_of {tg iter : Expr} {ks : Src → M → Prop} {wi : TI} (h : PI X tg iter wi) (q : ∀ (σ : L2.St) (H : Hp) (R : It → Hp → Prop), Env X.K μ H σ n → Rep X.K μ H → Thr X.K W KE μ H →
  (∀ s J H' μ', ks s μ' → s.Ok μ' → SrcRep X.K μ' H' s J → Step μ H μ' H' → Rep X.K μ' H' → R J H') → wi σ H R) : JI X W KE tg iter n μ ks := fun σ H R a b c d pins s I => h.run pins s σ H R I (q σ H R a b c d)
theorem ji_seq {tg iter : Expr} {ks : Src → M → Prop} (h : JE X W KE iter n μ fun d μ1 => ∃ xs, SqD μ1 d xs ∧ ks (.seq d xs) μ1) : JI X W KE tg iter n μ ks :=
  ji_of (pi_list peC) fun σ H R ev rp t q => by
    refine h σ H _ ev rp t fun v d H1 μ1 h1 s1 r1 d1 => ?_
    obtain ⟨xs, l, hk⟩ := h1
    obtain ⟨a, vs, rfl, ha, ra⟩ := l.rep r1 d1
    exact ⟨a, rfl, ⟨vs, ha⟩, q (.seq d xs) _ _ _ hk l ⟨a, d1, rfl⟩ s1 r1⟩
theorem ji_tup {tg iter : Expr} {ks : Src → M → Prop} (h : JE X W KE iter n μ fun d μ1 => ∃ xs, d = .tup xs ∧ ks (.tup xs) μ1) : JI X W KE tg iter n μ ks :=
  ji_of (pi_tup peC) fun σ H R ev rp t q => by
    refine h σ H _ ev rp t fun v d H1 μ1 h1 s1 r1 d1 => ?_
    obtain ⟨xs, rfl, hk⟩ := h1
    obtain ⟨a, vs, rfl, ha, ra⟩ := tup_rep d1
    exact ⟨a, rfl, ⟨vs, SqT.of ha⟩, q (.tup xs) _ _ _ hk trivial ⟨a, d1, rfl⟩ s1 r1⟩
theorem ji_str {tg iter : Expr} {ks : Src → M → Prop} (h : JE X W KE iter n μ fun d μ1 => ∃ z, d = .str z ∧ ks (.str z) μ1) : JI X W KE tg iter n μ ks :=
  ji_of (pi_str peC) fun σ H R ev rp t q => by
    refine h σ H _ ev rp t fun v d H1 μ1 h1 s1 r1 d1 => ?_
    obtain ⟨z, rfl, hk⟩ := h1
    cases d1
    exact ⟨z, rfl, q (.str z) _ _ _ hk trivial rfl s1 r1⟩
theorem ji_keys {tg iter : Expr} {ks : Src → M → Prop} (h : JE X W KE iter n μ fun d μ1 => ∃ a kvs, d = .obj a ∧ μ1 a = some (.fdc kvs) ∧ ks (.dky a (kvs.map (·.1))) μ1) : JI X W KE tg iter n μ ks :=
  ji_of (pi_keys peC) fun σ H R ev rp t q => by
    refine h σ H _ ev rp t fun v d H1 μ1 h1 s1 r1 d1 => ?_
    obtain ⟨a, kvs, rfl, ha, hk⟩ := h1
    cases d1
    obtain ⟨o, vs, e, rr⟩ := r1 _ _ ha
    exact ⟨a, o, rfl, .inl ⟨vs, e, q (.dky a (kvs.map (·.1))) _ _ _ hk ⟨kvs, ha, rfl⟩ ⟨o, kvs, vs, ha, e, rfl, rr.keys⟩ s1 r1⟩⟩
theorem ji_range1 {tg : Expr} {ks : Src → M → Prop} (hm : X.mg "range" = none) (h : JA X W KE [a] n μ fun ds μ1 => ∃ j : Int, ds = [.int j] ∧ -(2 ^ 62) ≤ j ∧ j < 2 ^ 62 ∧ ks (.rng 0 j.toNat) μ1) (hg : Gl X "range" := by rfl)
    (hs : starEach [a] X.env = [(false, eval a X.env)] := by rfl) : JI X W KE tg (.Call (.Name "range" p) [a] [] pos) n μ ks :=
  ji_of (pi_range1 hg hm paC hs) fun σ H R ev rp t q => by
    refine h σ H _ ev rp t fun vs ds H1 μ1 h1 s1 r1 d1 => ?_
    obtain ⟨j, rfl, l1, l2, hk⟩ := h1
    cases d1 with
    | cons d0 dn =>
      cases dn; cases d0
      exact ⟨j, rfl, l1, l2, q (.rng 0 j.toNat) _ _ _ hk trivial rfl s1 r1⟩
theorem ji_range2 {tg : Expr} {ks : Src → M → Prop} (hm : X.mg "range" = none) (h : JA X W KE [a, b] n μ fun ds μ1 => ∃ i j : Int, ds = [.int i, .int j] ∧ (-(2 ^ 62) ≤ i ∧ i < 2 ^ 62 ∧ -(2 ^ 62) ≤ j ∧ j < 2 ^ 62) ∧ ks (.rng i (j - i).toNat) μ1) (hg : Gl X "range" := by rfl)
    (hs : starEach [a, b] X.env = [(false, eval a X.env), (false, eval b X.env)] := by rfl) (hs2 : starEach [b] X.env = [(false, eval b X.env)] := by rfl) : JI X W KE tg (.Call (.Name "range" p) [a, b] [] pos) n μ ks :=
  ji_of (pi_range2 hg hm paC hs hs2) fun σ H R ev rp t q => by
    refine h σ H _ ev rp t fun vs ds H1 μ1 h1 s1 r1 d1 => ?_
    obtain ⟨i, j, rfl, l1, hk⟩ := h1
    cases d1 with
    | cons d0 dn =>
      cases dn with
      | cons d1 dn =>
        cases dn; cases d0; cases d1
        exact ⟨i, j, rfl, l1, q (.rng i (j - i).toNat) _ _ _ hk trivial rfl s1 r1⟩
theorem ji_range3 {c : Expr} {tg : Expr} {ks : Src → M → Prop} (hm : X.mg "range" = none) (h : JA X W KE [a, b, c] n μ fun ds μ1 => ∃ (i j s : Int) (m : Nat), ds = [.int i, .int j, .int s] ∧ RgC i j s m ∧ ks (.rgc i s m) μ1) (hg : Gl X "range" := by rfl)
    (hs : starEach [a, b, c] X.env = (false, eval a X.env) :: starEach [b, c] X.env := by rfl) (hpl : (backTo pos (starEach [b, c] X.env)).any (·.1) = false := by rfl) : JI X W KE tg (.Call (.Name "range" p) [a, b, c] [] pos) n μ ks :=
  ji_of (pi_range3 hg hm paC hs hpl) fun σ H R ev rp t q => by
    refine h σ H _ ev rp t fun vs ds H1 μ1 h1 s1 r1 d1 => ?_
    obtain ⟨i, j, s, m, rfl, l1, hk⟩ := h1
    cases d1 with
    | cons d0 dn =>
      cases dn with
      | cons d1 dn =>
        cases dn with
        | cons d2 dn =>
          cases dn; cases d0; cases d1; cases d2
          exact ⟨i, j, s, m, rfl, l1, q (.rgc i s m) _ _ _ hk trivial rfl s1 r1⟩

/-- a for, by a word over the turn, the names, the store -/
theorem js_for (i : Nat) {tg iter : Expr} (cn : X.calm = true) (ow : PassesOwn (model X.prog X.w) X.A X.env X.xe) (hg : PG X tg (gName i))
    (h : JI X W KE tg iter n μ fun s μ1 => ∃ Iv : Nat → En → M → Prop, Iv 0 n μ1 ∧ (∀ j n' μ', Iv j n' μ' → s.Ok μ') ∧
      (∀ j x n' μ', s.items[j]? = some x → Iv j n' μ' → JB X W KE A (n'.set i (some x)) μ' { nx := Iv (j + 1), ct := Iv (j + 1), bk := P.nx, rt := P.rt }) ∧ ∀ n' μ', Iv s.items.length n' μ' → P.nx n' μ') (hs : ∀ x, foldedSetIterable iter X.env x = pure x := by intro _; rfl) : JS X W KE (.For tg iter A [] pos) n μ P :=
  js_of (ps_for ow cn piC hg pbC hs) fun σ H D ev rp t q => by
    refine h σ H _ ev rp t fun s J H1 μ1 h1 ok1 sr1 s1 r1 => ?_
    obtain ⟨Iv, h0, hok, hturn, hend⟩ := h1
    refine ⟨fun j m σ' H' => m = s.items.length - j ∧ j ≤ s.items.length ∧ ∃ n' μ', Iv j n' μ' ∧ Env X.K μ' H' σ' n' ∧ Step μ H μ' H' ∧ Rep X.K μ' H' ∧ SrcRep X.K μ' H' s J, ⟨s.items.length, by simp, Nat.zero_le _, n, μ1, h0, ev.step s1, s1, r1, sr1⟩, ?_⟩
    rintro j m σ' H' ⟨rfl, hj, n', μ', iv, ev', st', rp', sr'⟩
    have T := src_turn (i := j) sr' rp' (hok j n' μ' iv)
    by_cases hlt : j < s.items.length
    · obtain ⟨hgo, hy⟩ := T.2 _ (List.getElem?_eq_getElem hlt)
      refine .inr ⟨hgo, fun σ2 H2 => ∃ n2 μ2, Iv (j + 1) n2 μ2 ∧ Env X.K μ2 H2 σ2 n2 ∧ Step μ H μ2 H2 ∧ Rep X.K μ2 H2 ∧ SrcRep X.K μ2 H2 s J, fun σ2 H2 z => ⟨s.items.length - (j + 1), by omega, rfl, hlt, z⟩, fun v H2 yv => ?_⟩
      obtain ⟨rfl, dv⟩ := hy v H2 yv
      refine hturn j _ n' μ' (List.getElem?_eq_getElem hlt) iv (σ'.set i (some v)) _ _ (ev'.set dv i) rp' (t.step st') ⟨fun σ2 e2 H2 μ2 a b c d => ?_, q.rt.step st', fun σ2 e2 H2 μ2 a b c d => ?_, fun σ2 e2 H2 μ2 a b c d => ?_⟩
      · exact ⟨e2, μ2, a, b, st'.trans c, d, sr'.step c⟩
      · exact q.nx _ _ _ _ a b (st'.trans c) d
      · exact ⟨e2, μ2, a, b, st'.trans c, d, sr'.step c⟩
    · have e : j = s.items.length := by omega
      subst e
      exact .inl ⟨T.1 (Nat.le_refl _), q.nx _ _ _ _ (hend n' μ' iv) ev' st' rp'⟩
/-- while, by a word and a measure -/
theorem js_while (ow : PassesOwn (model X.prog X.w) X.A X.env X.xe) (Iv : Nat → En → M → Prop) (m0 : Nat) (h0 : Iv m0 n μ)
    (hs : ∀ m n' μ', Iv m n' μ' → JT X W KE c n' μ' fun b μ2 => (b = true → JB X W KE A n' μ2 { nx := fun n3 μ3 => ∃ m', m' < m ∧ Iv m' n3 μ3, ct := fun n3 μ3 => ∃ m', m' < m ∧ Iv m' n3 μ3, bk := P.nx, rt := P.rt }) ∧ (b = false → P.nx n' μ2)) : JS X W KE (.While c A [] pos) n μ P :=
  js_of (ps_while ow ptC pbC) fun σ H D ev rp t q => by
    refine ⟨fun m σ' H' => ∃ n' μ', Iv m n' μ' ∧ Env X.K μ' H' σ' n' ∧ Step μ H μ' H' ∧ Rep X.K μ' H', ⟨m0, n, μ, h0, ev, Step.refl _ _, rp⟩, ?_⟩
    rintro m σ' H' ⟨n', μ', iv, ev', st', rp'⟩
    refine hs m n' μ' iv σ' H' _ ev' rp' (t.step st') fun b H2 μ2 h2 s2 r2 => ?_
    have st2 := st'.trans s2
    cases b with
    | true =>
      rw [if_pos rfl]
      refine ⟨fun σ3 H3 => ∃ m', m' < m ∧ ∃ n3 μ3, Iv m' n3 μ3 ∧ Env X.K μ3 H3 σ3 n3 ∧ Step μ H μ3 H3 ∧ Rep X.K μ3 H3, fun σ3 H3 z => z, ?_⟩
      refine h2.1 rfl σ' H2 _ (ev'.step s2) r2 (t.step st2) ⟨fun σ3 e3 H3 μ3 a b c d => ?_, q.rt.step st2, fun σ3 e3 H3 μ3 a b c d => ?_, fun σ3 e3 H3 μ3 a b c d => ?_⟩
      · obtain ⟨m', l, z⟩ := a
        exact ⟨m', l, e3, μ3, z, b, st2.trans c, d⟩
      · exact q.nx _ _ _ _ a b (st2.trans c) d
      · obtain ⟨m', l, z⟩ := a
        exact ⟨m', l, e3, μ3, z, b, st2.trans c, d⟩
    | false =>
      rw [if_neg Bool.false_ne_true]
      exact q.nx _ _ _ _ (h2.2 rfl) (ev'.step s2) st2 r2
end
end DL

/-! ## Comprehensions, defs, the law's end -/
namespace DL
open PySem PySem.Spec L2
abbrev W0 : WX := fun _ _ _ _ => False
abbrev KE0 : XD := fun _ _ _ _ => False
theorem Thr.no {K : Kf} {μ : M} {H : Hp} : Thr K W0 KE0 μ H := fun _ _ _ _ _ _ _ h => False.elim h
theorem Cok.blk {kl : Nat} {X : Cx} {W : WX} (c : Cok kl X W) {s : Shared} {H : Hp} {scope : Scope} {env : PySem.Env} {fp : List Addr} : Cok kl (X.blk s H scope env fp) W0 := ⟨c.room, c.calm, takes0, c.nd⟩
section
variable {X : Cx} {W : WX} {KE : XD} {tg iter elt e a b c o : Expr} {ifs es rest : List Expr} {st : Stmt} {sts A B : List Stmt} {n : En} {μ : M} {k : DK} {P : Ed} {pos pos' p apos : Pos} {x m f y : Str} {K : Kf} {kl j i : Nat} {scope : Scope}
def tIfs (X : Cx) : List Expr → TT
  | [] => tYes
  | [c] => cT X c
  | _ => fun _ _ _ => False
theorem ptsC {ifs : List Expr} : PTs X ifs (tIfs X ifs) := by
  match ifs with
  | [] => exact pts_nil
  | [c] => exact pts_one ptC
  | _ :: _ :: _ => exact ⟨fun _ _ _ _ _ _ h => h.elim⟩
def JIf (X : Cx) (W : WX) (KE : XD) : List Expr → En → M → (Bool → M → Prop) → Prop
  | [], _, μ, kb => kb true μ
  | [c], n, μ, kb => JT X W KE c n μ kb
  | _, _, _, _ => False
theorem JIf.run {ifs : List Expr} {kb : Bool → M → Prop} (h : JIf X W KE ifs n μ kb) {σ : L2.St} {H : Hp} {Q : Bool → Hp → Prop} (ev : Env X.K μ H σ n) (rp : Rep X.K μ H) (t : Thr X.K W KE μ H) (q : TlB X.K μ H kb Q) : tIfs X ifs σ H Q := by
  match ifs, h with
  | [], h => exact q _ _ μ h (Step.refl _ _) rp
  | [c], h => exact h σ H Q ev rp t q
/-- one turn of a comprehension: the test, then the element -/
def LcTurn (X : Cx) (scope : Scope) (ifs : List Expr) (elt : Expr) (n : En) (μ : M) (ko : Option Dv → M → Prop) : Prop :=
  ∀ (s : Shared) (H : Hp) (C : Addr) (cl : List (Str × Addr)) (fp : List Addr), JIf (X.blk s H scope (compEnvC scope cl C X.env) fp) W0 KE0 ifs n μ fun b μ2 =>
    (b = true → ∀ (s : Shared) (H : Hp) (C : Addr) (cl : List (Str × Addr)) (fp : List Addr), JE (X.blk s H scope (compEnvC scope cl C X.env) fp) W0 KE0 elt n μ2 fun y μ3 => ko (some y) μ3) ∧ (b = false → ko none μ2)
/-- the comprehension's list, as it is from now on -/
def LcEnd (μ : M) (a : Addr) (acc : List Dv) (k : DK) : Prop := k (.lst acc) (delM μ a) ∨ (μ a = some (.lst acc) ∧ k (.obj a) μ)
def LcAll (X : Cx) (scope : Scope) (ifs : List Expr) (elt : Expr) (i : Nat) (n : En) (k : DK) (s : Src) (μ1 : M) : Prop := ∀ a, μ1 a = none → ∃ Iv : Nat → List Dv → M → Prop, Iv 0 [] (updM μ1 a (.lst [])) ∧
  (∀ j acc μ', Iv j acc μ' → s.Ok μ' ∧ μ' a = some (.lst acc) ∧ acc.length < sizeLine) ∧
  (∀ j x acc μ', s.items[j]? = some x → Iv j acc μ' → LcTurn X scope ifs elt ((n.set i none).set i (some x)) μ' fun o μ3 => match o with
    | some y => μ3 a = some (.lst acc) ∧ Iv (j + 1) (acc ++ [y]) (updM μ3 a (.lst (acc ++ [y])))
    | none => Iv (j + 1) acc μ3) ∧
  ∀ acc μ', Iv s.items.length acc μ' → LcEnd μ' a acc k
abbrev tIfF (X : Cx) (scope : Scope) (ifs : List Expr) : TT := fun σ H Q => ∀ (s : Shared) (H0 : Hp) (C : Addr) (cl : List (Str × Addr)) (fp : List Addr), tIfs (X.blk s H0 scope (compEnvC scope cl C X.env) fp) ifs σ H Q
abbrev tElF (X : Cx) (scope : Scope) (elt : Expr) : TE := fun σ H Q => ∀ (s : Shared) (H0 : Hp) (C : Addr) (cl : List (Str × Addr)) (fp : List Addr), cE (X.blk s H0 scope (compEnvC scope cl C X.env) fp) elt σ H Q
theorem tIfF_ok (s : Shared) (H : Hp) (C : Addr) (cl : List (Str × Addr)) (fp : List Addr) : PTs (X.blk s H scope (compEnvC scope cl C X.env) fp) ifs (tIfF X scope ifs) := ⟨fun pins s' σ H' Q I h => ptsC.run pins s' σ H' Q I (h s H C cl fp)⟩
theorem tElF_ok (s : Shared) (H : Hp) (C : Addr) (cl : List (Str × Addr)) (fp : List Addr) : PE (X.blk s H scope (compEnvC scope cl C X.env) fp) elt (tElF X scope elt) := ⟨fun pins s' σ H' Q I h => h s H C cl fp pins s' I⟩
theorem lc_run (h : JI X W KE tg iter n μ fun s μ1 => LcAll X scope ifs elt i n k s μ1) {σ : L2.St} {H : Hp} {Q : VK} (ev : Env X.K μ H σ n) (rp : Rep X.K μ H) (t : Thr X.K W KE μ H) (q : Tl X.K μ H k Q) :
    tLc (cI X tg iter) (gName i) (tIfF X scope ifs) (tElF X scope elt) [i] σ H Q := by
  refine h σ H _ ev rp t fun s J H1 μ1 h1 ok1 sr1 s1 r1 => fun D hD => ?_
  obtain ⟨Iv, h0, hok, hturn, hend⟩ := h1 D (r1.free hD)
  have sN : Step μ1 H1 (updM μ1 D (.lst [])) (upd H1 D (.lst [])) := Step.newM hD
  have evW : ∀ {μ' : M} {H' : Hp}, Step μ H μ' H' → Env X.K μ' H' (wipe σ [i]) (n.set i none) := fun st => (ev.step st).wipe [i]
  refine ⟨fun j m H' => m = s.items.length - j ∧ j ≤ s.items.length ∧ ∃ acc μ', Iv j acc μ' ∧ Step μ H μ' H' ∧ Rep X.K μ' H' ∧ SrcRep X.K μ' H' s J, ⟨s.items.length, by simp, Nat.zero_le _, [], _, h0, s1.trans sN, r1.put sN ⟨[], upd_same, .nil⟩, sr1.step sN⟩, ?_⟩
  rintro j m H' ⟨rfl, hj, acc, μ', iv, st', rp', sr'⟩
  obtain ⟨ok', ha', hl'⟩ := hok j acc μ' iv
  have T := src_turn (i := j) sr' rp' ok'
  by_cases hlt : j < s.items.length
  · obtain ⟨hgo, hy⟩ := T.2 _ (List.getElem?_eq_getElem hlt)
    refine .inr ⟨hgo, fun H2 => ∃ acc2 μ2, Iv (j + 1) acc2 μ2 ∧ Step μ H μ2 H2 ∧ Rep X.K μ2 H2 ∧ SrcRep X.K μ2 H2 s J, fun H2 z => ⟨s.items.length - (j + 1), by omega, rfl, hlt, z⟩, fun v H2 yv => ?_⟩
    obtain ⟨rfl, dv⟩ := hy v H2 yv
    have hT := hturn j _ acc μ' (List.getElem?_eq_getElem hlt) iv
    have ev2 : Env X.K μ' H2 ((wipe σ [i]).set i (some v)) ((n.set i none).set i (some s.items[j])) := (evW st').set dv i
    refine ⟨?_, fun sA HA CA clA fpA => ?_⟩
    · show ((σ.set i none).set i (some v)).set i none = σ.set i none
      rw [List.set_set, List.set_set]
    · refine (hT sA HA CA clA fpA).run ev2 rp' Thr.no fun b H3 μ3 h3 s3 r3 => ?_
      cases b with
      | true =>
        rw [if_pos rfl]
        intro sB HB CB clB fpB
        refine h3.1 rfl sB HB CB clB fpB _ H3 _ (ev2.step s3) r3 Thr.no fun y d H4 μ4 h4 s4 r4 d4 => ?_
        obtain ⟨ha4, iv4⟩ := h4
        obtain ⟨vs, e4, rr⟩ := r4 _ _ ha4
        have s5 := Step.mut (H := H4) (o := .lst (vs ++ [y])) (u := .lst (acc ++ [d])) ha4
        exact ⟨vs, e4, by rw [rr.length]; exact hl', acc ++ [d], _, iv4, ((st'.trans s3).trans s4).trans s5, r4.put s5 ⟨_, upd_same, (rr.step s5).append (.one (d4.step s5))⟩, (((sr'.step s3).step s4).step s5)⟩
      | false =>
        rw [if_neg Bool.false_ne_true]
        exact ⟨acc, μ3, h3.2 rfl, st'.trans s3, r3, sr'.step s3⟩
  · have e : j = s.items.length := by omega
    subst e
    refine .inl ⟨T.1 (Nat.le_refl _), ?_⟩
    rcases hend acc μ' iv with hk | ⟨hm, hk⟩
    · obtain ⟨vs, e4, rr⟩ := rp' _ _ ha'
      exact q _ _ _ _ hk (st'.trans (Step.freeze ha')) (rp'.freeze ha') (.lst e4 delM_same (rr.step (Step.freeze ha')))
    · exact q _ _ _ _ hk st' rp' (.obj D)
theorem je_lcG (i : Nat) (cn : X.calm = true) (nd : X.N.Nodup) (ok : BlkOk X.N X.env.scope scope [(x, i)]) (hg : ∀ (s : Shared) (H : Hp) (C : Addr) (cl : List (Str × Addr)) (fp : List Addr), PG (X.blk s H scope (compEnvC scope cl C X.env) fp) tg (gName i))
    (h : JI X W KE tg iter n μ fun s μ1 => LcAll X scope ifs elt i n k s μ1) (hs : ∀ x, foldedSetIterable iter X.env x = pure x := by intro _; rfl) : JE X W KE (.ListComp elt [⟨tg, iter, ifs, 0⟩] scope pos) n μ k :=
  je_of (pe_lc cn nd piC ok hg (fun s H C cl fp => tIfF_ok s H C cl fp) (fun s H C cl fp => tElF_ok s H C cl fp) hs) fun σ H Q ev rp t q => lc_run h ev rp t q
theorem js_setLcG (i ii : Nat) {py spos : Pos} (cn : X.calm = true) (nd : X.N.Nodup) (hy : X.N[ii]? = some y) (hyl : X.env.scope.names.lookup y = some .local) (hsw : swapsWith (.ListComp elt [⟨tg, iter, ifs, 0⟩] scope pos) (some (.Name y py)) spos.line X.env = pure true)
    (ok : BlkOk X.N X.env.scope scope [(x, i)]) (hg : ∀ (s : Shared) (H : Hp) (C : Addr) (cl : List (Str × Addr)) (fp : List Addr), PG (X.blk s H scope (compEnvC scope cl C X.env) fp) tg (gName i))
    (h : JI X W KE tg iter n μ fun s μ1 => LcAll X scope ifs elt i n (fun d μ' => P.nx (n.set ii (some d)) μ') s μ1) (hs : ∀ x, foldedSetIterable iter X.env x = pure x := by intro _; rfl) : JS X W KE (.Assign [.Name y py] (.ListComp elt [⟨tg, iter, ifs, 0⟩] scope pos) spos) n μ P :=
  js_of (ps_setLc cn nd hy hyl hsw piC ok hg (fun s H C cl fp => tIfF_ok s H C cl fp) (fun s H C cl fp => tElF_ok s H C cl fp) hs) fun σ H D ev rp t q => lc_run (Q := fun x H1 => gName ii x σ H1 D.nx) h ev rp t fun v d H' μ' hk st r dd => q.nx _ _ _ _ hk ((ev.step st).set dd ii) st r
/-- more stands -/
def ExtM (μ μ' : M) : Prop := ∀ a o, μ a = some o → μ' a = some o
theorem ExtM.refl (μ : M) : ExtM μ μ := fun _ _ h => h
theorem Src.Ok.ext {s : Src} {μ μ' : M} (h : s.Ok μ) (e : ExtM μ μ') : s.Ok μ' := by
  cases s with
  | seq d xs =>
    cases (show SqD μ d xs from h) with
    | lst xs => exact .lst _
    | fro xs => exact .fro _
    | obj z => exact .obj (e _ _ z)
  | tup xs => trivial
  | rng lo n => trivial
  | rgc lo c n => trivial
  | dky a ks => obtain ⟨kvs, e1, e2⟩ := h; exact ⟨kvs, e _ _ e1, e2⟩
  | str z => trivial
/-- a comprehension that changes nothing -/
theorem lc_pure (f : Dv → Option Dv) {s : Src} {μ1 : M} (hok : s.Ok μ1) (hl : s.items.length < sizeLine)
    (h : ∀ (j : Nat) (x : Dv) (μ' : M), s.items[j]? = some x → ExtM μ1 μ' → LcTurn X scope ifs elt ((n.set i none).set i (some x)) μ' fun o μ3 => o = f x ∧ μ3 = μ') (hk : k (.lst (s.items.filterMap f)) μ1) : LcAll X scope ifs elt i n k s μ1 := fun a ha => by
  have ex : ∀ acc, ExtM μ1 (updM μ1 a (.lst acc)) := fun acc b u e => by rw [updM_ne (ne_ofM e ha)]; exact e
  refine ⟨fun j acc μ' => acc = (s.items.take j).filterMap f ∧ μ' = updM μ1 a (.lst acc), ⟨rfl, rfl⟩, ?_, ?_, ?_⟩
  · rintro j acc μ' ⟨rfl, rfl⟩
    refine ⟨hok.ext (ex _), updM_same, Nat.lt_of_le_of_lt (List.length_filterMap_le _ _) ?_⟩
    rw [List.length_take]; omega
  · rintro j x acc μ' hx ⟨rfl, rfl⟩
    have ht : (s.items.take (j + 1)).filterMap f = (s.items.take j).filterMap f ++ (match f x with | some y => [y] | none => []) := by
      rw [List.take_add_one, List.filterMap_append, hx]
      cases e : f x with
      | none => simp [e]
      | some y => simp [e]
    intro s1 H1 C1 cl1 fp1
    have hT := h j x _ hx (ex ((s.items.take j).filterMap f)) s1 H1 C1 cl1 fp1
    have go : ∀ (b : Bool) (μ2 : M), ((b = true → ∀ (sS : Shared) (H : Hp) (C : Addr) (cl : List (Str × Addr)) (fp : List Addr), JE (X.blk sS H scope (compEnvC scope cl C X.env) fp) W0 KE0 elt ((n.set i none).set i (some x)) μ2 fun y μ3 => some y = f x ∧ μ3 = updM μ1 a (.lst ((s.items.take j).filterMap f))) ∧ (b = false → none = f x ∧ μ2 = updM μ1 a (.lst ((s.items.take j).filterMap f)))) →
        ((b = true → ∀ (sS : Shared) (H : Hp) (C : Addr) (cl : List (Str × Addr)) (fp : List Addr), JE (X.blk sS H scope (compEnvC scope cl C X.env) fp) W0 KE0 elt ((n.set i none).set i (some x)) μ2 fun y μ3 => μ3 a = some (.lst ((s.items.take j).filterMap f)) ∧ ((s.items.take j).filterMap f ++ [y] = (s.items.take (j + 1)).filterMap f ∧ updM μ3 a (.lst ((s.items.take j).filterMap f ++ [y])) = updM μ1 a (.lst ((s.items.take j).filterMap f ++ [y])))) ∧ (b = false → (s.items.take j).filterMap f = (s.items.take (j + 1)).filterMap f ∧ μ2 = updM μ1 a (.lst ((s.items.take j).filterMap f)))) := fun b μ2 z => ⟨fun hb sS H C cl fp => (z.1 hb sS H C cl fp).mono fun y μ3 ⟨z1, z2⟩ => by
          subst z2
          exact ⟨updM_same, by rw [ht, ← z1], updM_updM⟩, fun hb => by
          obtain ⟨z1, z2⟩ := z.2 hb
          exact ⟨by rw [ht, ← z1, List.append_nil], z2⟩⟩
    match ifs, hT with
    | [], hT => exact go _ _ hT
    | [c], hT => exact JT.mono hT fun b μ2 z => go _ _ z
  · rintro acc μ' ⟨rfl, rfl⟩
    rw [List.take_length]
    exact .inl (by rw [delM_updM ha]; exact hk)

/-! ### defs -/
theorem fn_data {Pg : Program} {w : World} {K : Kf} {mg : Str → Option Value} {base : Heap} {x qual : Str} {st : Stmt} {f : Addr} {fd : FuncData} {N ps : List Str} {k : Nat} {S : DSp} (F : Fun K x qual st f fd) (Sc : FnScope N ps (defScope st)) (len : ∀ ds μ kd ke, S ds μ kd ke → ds.length = ps.length)
    (hbody : ∀ (cdv : Value) (A : Around) (outer : List PySem.Env) (s : Shared) (H : Hp) (E : XK),
      let X := cxOf (L2.CX Pg w) Pg w K mg base N qual (defScope st) f cdv A outer s H E
      Cok k X (fun cls d _ H => E cls d H) → PassesOwn (model X.prog X.w) X.A X.env X.xe → ∀ (ds : List Dv) (μ : M) (kd : DK) (ke : XF), S ds μ kd ke →
        JB X (fun cls d _ H => E cls d H) (fun cls fs _ μ' => ke cls fs μ') (defBody st) (ds.map some ++ List.replicate (N.length - ds.length) none) μ { nx := fun _ μ' => kd .non μ', rt := kd }) : FnOk Pg w K mg base (L2.CX Pg w) (k + 1) f fd ps (toSp K S) := by
  refine F.okX Sc (fun vs H Q E h => ?_) (fun cdv A outer s H vs Q E hr h => ?_)
  · obtain ⟨ds, μ, kd, ke, dr, rp, sp, _⟩ := h
    rw [dr.length]
    exact len _ _ _ _ sp
  · obtain ⟨ds, μ, kd, ke, dr, rp, sp, tl, tx⟩ := h
    refine ⟨_, pbC, hbody cdv A outer s H E ⟨hr, rfl, takes_of rfl rfl rfl rfl, Sc.nd⟩ (passes_of rfl) ds μ kd ke sp _ H _ ?_ rp (fun cls fs d σ' e' H' μ' h1 _ s1 r1 x1 => tx cls fs d H' μ' h1 s1 r1 x1) ⟨fun σ' e' H' μ' h1 _ s1 r1 => tl .non .non H' μ' h1 s1 r1 .non, tl, fun _ _ _ _ h => False.elim h, fun _ _ _ _ h => False.elim h⟩⟩
    unfold L2.start
    rw [dr.length]
    exact Env.start _ dr
theorem dfn_of {Pg : Program} {w : World} {K : Kf} {mg : Str → Option Value} {base : Heap} {f : Addr} {fd : FuncData} {ps : List Str} {k : Nat} {S : DSp} (F : FnOk Pg w K mg base (L2.CX Pg w) k f fd ps (toSp K S)) (hb : Binds K fd ps []) : DFn Pg w K mg base k f S [] := ⟨fd, ps, [], [], F, hb, .nil, .nil⟩
/-- the law's own promise -/
def spLaw : DSp := fun ds μ kd _ => ∃ ns : List Int, ds = [.fro (ns.map Dv.int)] ∧ ns.length ≤ 63 ∧ μ = (fun _ => none) ∧ ∀ μ', kd (.bl true) μ'
theorem law_sp {K : Kf} {H : Hp} {a : Addr} {ns : List Int} (hl : ns.length ≤ 63) (hS : SqL K H a (ns.map V.int)) : toSp K spLaw [.ref a] H (fun v _ => v = .bl true) fun _ _ _ => False := by
  refine ⟨[.fro (ns.map Dv.int)], fun _ => none, fun d _ => d = .bl true, fun _ _ _ => False, .one ?_, (fun _ _ h => by cases h), ⟨ns, rfl, hl, rfl, fun _ => rfl⟩, fun v d H' μ' hk _ _ r => ?_, fun _ _ _ _ _ h => False.elim h⟩
  · rcases hS with h | h
    · exact .fro h rfl (.ofInts ns)
    · exact .frk h (.ofInts ns)
  · subst hk
    cases r
    rfl
theorem law_CX {Pg : Program} {w : World} (H : Hp) (s : Shared) (e : Value) (s' : Shared) (h : L2.CX Pg w [] H s (fun _ _ _ => False) e s') : False := by
  obtain ⟨_, _, _, _, _, _, _, _, _, _, _, _, z⟩ := h
  exact z.elim
end
end DL

/-! ## Templates of names; handy forms -/
namespace DL
open PySem PySem.Spec L2
theorem LeE.refl (e : En) : LeE e e := ⟨rfl, fun _ _ h => h⟩
theorem LeE.nil : LeE [] [] := ⟨rfl, fun _ _ h => h⟩
theorem LeE.same {x : Option Dv} {t t' : En} (h : LeE t t') : LeE (x :: t) (x :: t') := ⟨congrArg (· + 1) h.1, fun i d q => by
  cases i with
  | zero => exact q
  | succ i => exact h.2 i d q⟩
theorem LeE.drop {x : Option Dv} {t t' : En} (h : LeE t t') : LeE (x :: t) (none :: t') := ⟨congrArg (· + 1) h.1, fun i d q => by
  cases i with
  | zero => cases q
  | succ i => exact h.2 i d q⟩
theorem LeE.trans {a b c : En} (h : LeE a b) (g : LeE b c) : LeE a c := ⟨h.1.trans g.1, fun i d q => h.2 i d (g.2 i d q)⟩
theorem LeE.set {a b : En} (h : LeE a b) (i : Nat) (x : Option Dv) : LeE (a.set i x) (b.set i x) := ⟨by rw [List.length_set, List.length_set]; exact h.1, fun j d q => by
  by_cases z : i = j
  · subst z
    by_cases hl : i < b.length
    · rw [List.getElem?_set_self hl] at q
      rw [List.getElem?_set_self (by rw [h.1]; exact hl)]
      exact q
    · rw [List.getElem?_eq_none (by rw [List.length_set]; omega)] at q
      cases q
  · rw [List.getElem?_set_ne z] at q ⊢
    exact h.2 j d q⟩
section
variable {X : Cx} {W : WX} {KE : XD} {tg iter elt e a b c o : Expr} {ifs es rest : List Expr} {st : Stmt} {sts A B : List Stmt} {n : En} {μ : M} {k : DK} {P : Ed} {pos pos' p apos : Pos} {x m f y : Str} {K : Kf} {kl j : Nat} {scope : Scope}
/-- what is known behind: at least these names -/
def Mid (Q : En → M → Prop) : En → M → Prop := fun e' μ' => ∃ e2, LeE e' e2 ∧ Q e2 μ'
theorem jb_cut (Q : En → M → Prop) (h : JS X W KE st n μ { P with nx := Mid Q }) (h2 : ∀ e μ', Q e μ' → JB X W KE sts e μ' P) : JB X W KE (st :: sts) n μ P :=
  jb_cons (h.mono (fun _ _ ⟨e2, l, q⟩ => (h2 e2 _ q).le l) (fun _ _ z => z) (fun _ _ z => z) (fun _ _ z => z))
theorem js_forT (i : Nat) (cn : X.calm = true) (ow : PassesOwn (model X.prog X.w) X.A X.env X.xe) (hg : PG X tg (gName i))
    (h : JI X W KE tg iter n μ fun s μ1 => ∃ Iv : Nat → En → M → Prop, Mid (Iv 0) n μ1 ∧ (∀ j n' μ', Iv j n' μ' → s.Ok μ') ∧
      (∀ j x e μ', s.items[j]? = some x → Iv j e μ' → JB X W KE A (e.set i (some x)) μ' { nx := Mid (Iv (j + 1)), ct := Mid (Iv (j + 1)), bk := P.nx, rt := P.rt }) ∧ ∀ e μ', Iv s.items.length e μ' → ∀ n', LeE n' e → P.nx n' μ') (hs : ∀ x, foldedSetIterable iter X.env x = pure x := by intro _; rfl) : JS X W KE (.For tg iter A [] pos) n μ P := by
  refine js_for i cn ow hg (fun σ H R ev rp t q => h σ H R ev rp t fun s J H' μ' hh => q s J H' μ' ?_) hs
  obtain ⟨Iv, h0, hok, ht, hd⟩ := hh
  exact ⟨fun j => Mid (Iv j), h0, fun j n' μ' ⟨e2, l, z⟩ => hok j e2 μ' z, fun j x n' μ' hx ⟨e2, l, z⟩ => (ht j x e2 μ' hx z).le (l.set i _), fun n' μ' ⟨e2, l, z⟩ => hd e2 μ' z n' l⟩
/-- a test whose value is told ahead, nothing changed -/
theorem jt_to (v : Bool) {kb : Bool → M → Prop} (h : JT X W KE e n μ fun b μ' => b = v ∧ μ' = μ) (hk : kb v μ) : JT X W KE e n μ kb := h.mono fun b μ' ⟨h1, h2⟩ => by subst h1; subst h2; exact hk
theorem je_to (v : Dv) (h : JE X W KE e n μ fun d μ' => d = v ∧ μ' = μ) (hk : k v μ) : JE X W KE e n μ k := h.mono fun b μ' ⟨h1, h2⟩ => by subst h1; subst h2; exact hk
theorem getD_mapF {α β : Type} (f : α → β) (xs : List α) (i : Nat) (z : α) : (xs.map f).getD i (f z) = f (xs.getD i z) := by
  rw [List.getD_eq_getElem?_getD, List.getD_eq_getElem?_getD, List.getElem?_map]
  cases xs[i]? <;> rfl
theorem at_getD {α : Type} {xs : List α} {i : Int} (d : α) (h0 : 0 ≤ i) (h1 : i < (xs.length : Int)) : L2.atI xs i = some (xs.getD i.toNat d) := by
  have hl : i.toNat < xs.length := by omega
  have e : L2.atI xs ((i.toNat : Nat) : Int) = some (xs.getD i.toNat d) := L2.atI_nat (by rw [List.getD_eq_getElem?_getD, List.getElem?_eq_getElem hl]; rfl)
  rw [Int.toNat_of_nonneg h0] at e
  exact e
/-- a list of ints at a place -/
theorem d_ixInts (ns : List Int) {x : Dv} {i : Int} (l : SqD μ x (ns.map Dv.int)) (h0 : 0 ≤ i) (h1 : i < (ns.length : Int)) (h : k (.int (ns.getD i.toNat 0)) μ) : DOp K (rIx K) x (.int i) μ k :=
  d_ixL l (d := .int (ns.getD i.toNat 0)) (by
    rw [at_getD (.int 0) h0 (by rw [List.length_map]; exact h1)]
    congr 1
    exact getD_mapF Dv.int ns i.toNat 0) h
/-- a list of anything at a place -/
theorem d_ixMap {α : Type} (f : α → Dv) (xs : List α) (z : α) {x : Dv} {i : Int} (l : SqD μ x (xs.map f)) (h0 : 0 ≤ i) (h1 : i < (xs.length : Int)) (h : k (f (xs.getD i.toNat z)) μ) : DOp K (rIx K) x (.int i) μ k :=
  d_ixL l (d := f (xs.getD i.toNat z)) (by
    rw [at_getD (f z) h0 (by rw [List.length_map]; exact h1)]
    congr 1
    exact getD_mapF f xs i.toNat z) h
end
end DL

/-! ## Data that == compares as Lean does -/
namespace DL
open PySem PySem.Spec L2
structure Enc (α : Type) [DecidableEq α] where
  dv : α → Dv
  py : α → PyData
  n : Nat
  toPy : ∀ x, DL.toPy (dv x) = some (py x)
  lay : ∀ x, (py x).canLay0 = true
  dep : ∀ x, (py x).depth ≤ n
  eqv : ∀ x y, PyData.eqv (py x) (py y) = decide (x = y)
theorem Enc.shaped {α : Type} [DecidableEq α] (E : Enc α) (h : E.n ≤ 64) (x : α) : SeqAt.shaped (E.py x) = true := by
  unfold SeqAt.shaped
  rw [E.lay x, decide_eq_true (Nat.le_trans (E.dep x) h)]
  rfl
def Enc.int : Enc Int := ⟨Dv.int, PyData.int, 0, fun _ => by unfold DL.toPy; rfl, fun _ => by unfold PyData.canLay0; rfl, fun _ => by unfold PyData.depth; exact Nat.le_refl _, fun x y => by
  unfold PyData.eqv
  by_cases e : x = y
  · subst e; simp
  · rw [decide_eq_false e]; simpa using e⟩
theorem depthAll_le {xs : List PyData} {n : Nat} (h : ∀ x ∈ xs, x.depth ≤ n) : PyData.depthAll xs ≤ n := by
  induction xs with
  | nil => unfold PyData.depthAll; omega
  | cons x r ih =>
    unfold PyData.depthAll
    have h1 := h x List.mem_cons_self
    have h2 := ih fun y hy => h y (List.mem_cons_of_mem _ hy)
    omega
theorem layAll_of {xs : List PyData} (h : ∀ x ∈ xs, x.canLay0 = true) : PyData.canLayAll0 xs = true := by
  induction xs with
  | nil => unfold PyData.canLayAll0; rfl
  | cons x r ih =>
    unfold PyData.canLayAll0
    rw [h x List.mem_cons_self, ih fun y hy => h y (List.mem_cons_of_mem _ hy)]
    rfl
def Enc.pair {α β : Type} [DecidableEq α] [DecidableEq β] (E : Enc α) (G : Enc β) : Enc (α × β) where
  dv p := .tup [E.dv p.1, G.dv p.2]
  py p := .tuple [E.py p.1, G.py p.2]
  n := max E.n G.n + 1
  toPy p := by unfold DL.toPy DL.toPys; rw [E.toPy]; unfold DL.toPys; rw [G.toPy]; unfold DL.toPys; rfl
  lay p := by unfold PyData.canLay0; exact layAll_of (by intro x hx; rcases List.mem_cons.mp hx with rfl | hx; exact E.lay _; rcases List.mem_cons.mp hx with rfl | hx; exact G.lay _; cases hx)
  dep p := by
    unfold PyData.depth
    have : PyData.depthAll [E.py p.1, G.py p.2] ≤ max E.n G.n := depthAll_le (by
      intro x hx
      rcases List.mem_cons.mp hx with rfl | hx
      · exact Nat.le_trans (E.dep _) (Nat.le_max_left _ _)
      rcases List.mem_cons.mp hx with rfl | hx
      · exact Nat.le_trans (G.dep _) (Nat.le_max_right _ _)
      cases hx)
    omega
  eqv p q := by
    unfold PyData.eqv PyData.eqvAll PyData.eqvAll PyData.eqvAll
    rw [E.eqv, G.eqv]
    obtain ⟨a, b⟩ := p
    obtain ⟨c, d⟩ := q
    by_cases h1 : a = c
    · by_cases h2 : b = d
      · simp [h1, h2]
      · simp [h1, h2]
    · simp [h1]
theorem toPys_map {α : Type} [DecidableEq α] (E : Enc α) (xs : List α) : DL.toPys (xs.map E.dv) = some (xs.map E.py) := by
  induction xs with
  | nil => rw [List.map_nil]; unfold DL.toPys; rfl
  | cons x r ih => rw [List.map_cons]; unfold DL.toPys; rw [E.toPy, ih]; rfl
theorem eqvAll_map {α : Type} [DecidableEq α] (E : Enc α) : ∀ xs ys : List α, PyData.eqvAll (xs.map E.py) (ys.map E.py) = decide (xs = ys)
  | [], [] => by rw [List.map_nil]; unfold PyData.eqvAll; rfl
  | [], y :: ys => by rw [List.map_nil, List.map_cons]; unfold PyData.eqvAll; rfl
  | x :: xs, [] => by rw [List.map_nil, List.map_cons]; unfold PyData.eqvAll; rfl
  | x :: xs, y :: ys => by
    rw [List.map_cons, List.map_cons]
    unfold PyData.eqvAll
    rw [E.eqv, eqvAll_map E xs ys]
    by_cases h1 : x = y
    · by_cases h2 : xs = ys
      · simp [h1, h2]
      · simp [h1, h2]
    · simp [h1]
def Enc.list {α : Type} [DecidableEq α] (E : Enc α) : Enc (List α) where
  dv xs := .lst (xs.map E.dv)
  py xs := .list (xs.map E.py)
  n := E.n + 1
  toPy xs := by unfold DL.toPy; rw [toPys_map]; rfl
  lay xs := by unfold PyData.canLay0; exact layAll_of (by intro x hx; obtain ⟨a, _, rfl⟩ := List.mem_map.mp hx; exact E.lay a)
  dep xs := by
    unfold PyData.depth
    have : PyData.depthAll (xs.map E.py) ≤ E.n := depthAll_le (by intro x hx; obtain ⟨a, _, rfl⟩ := List.mem_map.mp hx; exact E.dep a)
    omega
  eqv xs ys := by unfold PyData.eqv; exact eqvAll_map E xs ys
/-- the same of a list that nobody may change -/
def Enc.fro {α : Type} [DecidableEq α] (E : Enc α) : Enc (List α) where
  dv xs := .fro (xs.map E.dv)
  py xs := .list (xs.map E.py)
  n := E.n + 1
  toPy xs := by unfold DL.toPy; rw [toPys_map]; rfl
  lay := E.list.lay
  dep := E.list.dep
  eqv := E.list.eqv
section
variable {K : Kf} {μ : M} {k : DK}
theorem d_eqE {α : Type} [DecidableEq α] (E : Enc α) (hn : E.n ≤ 64) {x y : α} {d e : Dv} (hd : d = E.dv x := by rfl) (he : e = E.dv y := by rfl) (h : k (.bl (decide (x = y))) μ) : DOp K (rEqA K) d e μ k := by
  subst hd; subst he
  exact d_eqD (E.toPy x) (E.toPy y) (E.shaped hn x) (E.shaped hn y) (by rw [E.eqv]; exact h)
theorem d_neE {α : Type} [DecidableEq α] (E : Enc α) (hn : E.n ≤ 64) {x y : α} {d e : Dv} (hd : d = E.dv x := by rfl) (he : e = E.dv y := by rfl) (h : k (.bl (!decide (x = y))) μ) : DOp K (rNeA K) d e μ k := by
  subst hd; subst he
  exact d_neD (E.toPy x) (E.toPy y) (E.shaped hn x) (E.shaped hn y) (by rw [E.eqv]; exact h)
/-- against the empty list -/
theorem d_neNil {α : Type} [DecidableEq α] (E : Enc α) (hn : E.n + 1 ≤ 64) {d : Dv} (xs : List α) (l : d = .lst (xs.map E.dv) ∨ d = .fro (xs.map E.dv)) (h : k (.bl (!decide (xs = []))) μ) : DOp K (rNeA K) d (.lst []) μ k := by
  have e0 : DL.toPy (.lst []) = some (.list []) := by unfold DL.toPy DL.toPys; rfl
  have s0 : SeqAt.shaped (.list []) = true := by decide +kernel
  have e1 : DL.toPy d = some (E.list.py xs) := by
    rcases l with rfl | rfl
    · exact E.list.toPy xs
    · exact E.fro.toPy xs
  exact d_neD e1 e0 (E.list.shaped hn xs) s0 (by
    have := E.list.eqv xs []
    have e2 : E.list.py [] = .list [] := rfl
    rw [e2] at this
    rw [this]; exact h)
theorem d_eqNil {α : Type} [DecidableEq α] (E : Enc α) (hn : E.n + 1 ≤ 64) {d : Dv} (xs : List α) (l : d = .lst (xs.map E.dv) ∨ d = .fro (xs.map E.dv)) (h : k (.bl (decide (xs = []))) μ) : DOp K (rEqA K) d (.lst []) μ k := by
  have e0 : DL.toPy (.lst []) = some (.list []) := by unfold DL.toPy DL.toPys; rfl
  have s0 : SeqAt.shaped (.list []) = true := by decide +kernel
  have e1 : DL.toPy d = some (E.list.py xs) := by
    rcases l with rfl | rfl
    · exact E.list.toPy xs
    · exact E.fro.toPy xs
  exact d_eqD e1 e0 (E.list.shaped hn xs) s0 (by
    have := E.list.eqv xs []
    have e2 : E.list.py [] = .list [] := rfl
    rw [e2] at this
    rw [this]; exact h)
end
end DL
namespace DL
open PySem PySem.Spec L2
section
variable {X : Cx} {W : WX} {KE : XD} {e a b c : Expr} {n : En} {μ : M} {kb : Bool → M → Prop} {pos : Pos} {kl : Nat}
def kB (kb : Bool → M → Prop) : DK := fun z μ' => ∃ c, z = .bl c ∧ kb c μ'
theorem jt_cmp {op : CmpOp} {r : R2} (ho : OpR X (compareOp op) r) (hm : behindInMarks op b = false) (h : JE X W KE a n μ fun x μ1 => JE X W KE b n μ1 fun y μ2 => DOp X.K r x y μ2 (kB kb)) : JT X W KE (.Compare a [op] [b] pos) n μ kb :=
  jt_of (pt_cmpR ho peC peC hm) fun σ H Q ev rp t q => by
    refine h σ H _ ev rp t fun u x H1 μ1 h1 s1 r1 d1 => ?_
    refine h1 σ H1 _ (ev.step s1) r1 (t.step s1) fun v y H2 μ2 h2 s2 r2 d2 => ?_
    refine h2 u v H2 _ r2 (d1.step s2) d2 fun w d H3 μ3 h3 s3 r3 d3 => ?_
    obtain ⟨c, rfl, h4⟩ := h3
    cases d3
    exact ⟨c, rfl, q _ _ μ3 h4 ((s1.trans s2).trans s3) r3⟩
theorem jt_lt (h : JE X W KE a n μ fun x μ1 => JE X W KE b n μ1 fun y μ2 => DOp X.K (rI0 fun i j => V.bl (decide (i < j))) x y μ2 (kB kb)) : JT X W KE (.Compare a [.Lt] [b] pos) n μ kb := jt_cmp op_lt (nomark _) h
theorem jt_le (h : JE X W KE a n μ fun x μ1 => JE X W KE b n μ1 fun y μ2 => DOp X.K (rI0 fun i j => V.bl (decide (i ≤ j))) x y μ2 (kB kb)) : JT X W KE (.Compare a [.LtE] [b] pos) n μ kb := jt_cmp op_le (nomark _) h
theorem jt_gt (h : JE X W KE a n μ fun x μ1 => JE X W KE b n μ1 fun y μ2 => DOp X.K (rI0 fun i j => V.bl (decide (j < i))) x y μ2 (kB kb)) : JT X W KE (.Compare a [.Gt] [b] pos) n μ kb := jt_cmp op_gt (nomark _) h
theorem jt_ge (h : JE X W KE a n μ fun x μ1 => JE X W KE b n μ1 fun y μ2 => DOp X.K (rI0 fun i j => V.bl (decide (j ≤ i))) x y μ2 (kB kb)) : JT X W KE (.Compare a [.GtE] [b] pos) n μ kb := jt_cmp op_ge (nomark _) h
theorem jt_eq (c : Cok kl X W) (h : JE X W KE a n μ fun x μ1 => JE X W KE b n μ1 fun y μ2 => DOp X.K (rEqA X.K) x y μ2 (kB kb)) : JT X W KE (.Compare a [.Eq] [b] pos) n μ kb := jt_cmp (OpR.or op_eq (op_eqD c.room.units)) (nomark _) h
theorem jt_ne (c : Cok kl X W) (h : JE X W KE a n μ fun x μ1 => JE X W KE b n μ1 fun y μ2 => DOp X.K (rNeA X.K) x y μ2 (kB kb)) : JT X W KE (.Compare a [.NotEq] [b] pos) n μ kb := jt_cmp (OpR.or op_ne (op_neD c.room.units)) (nomark _) h
theorem jt_is (h : JE X W KE a n μ fun x μ1 => JE X W KE b n μ1 fun y μ2 => DOp X.K (fun x y H Q => y = .non ∧ Q (.bl (decide (x = .non))) H) x y μ2 (kB kb)) (hm : behindInMarks .Is b = false := by exact nomark _) : JT X W KE (.Compare a [.Is] [b] pos) n μ kb := jt_cmp op_isN hm h
theorem jt_isnot (h : JE X W KE a n μ fun x μ1 => JE X W KE b n μ1 fun y μ2 => DOp X.K (fun x y H Q => y = .non ∧ Q (.bl (!decide (x = .non))) H) x y μ2 (kB kb)) (hm : behindInMarks .IsNot b = false := by exact nomark _) : JT X W KE (.Compare a [.IsNot] [b] pos) n μ kb := jt_cmp op_notN hm h
theorem jt_chain {op op' : CmpOp} {r r' : R2} (ho : OpR X (compareOp op) r) (ho' : OpR X (compareOp op') r')
    (h : JE X W KE a n μ fun x μ1 => JE X W KE b n μ1 fun y μ2 => DOp X.K r x y μ2 fun z μ3 => ∃ b, z = .bl b ∧ (b = true → JE X W KE c n μ3 fun w μ4 => DOp X.K r' y w μ4 (kB kb)) ∧ (b = false → kb false μ3))
    (hm : lastMarks [op, op'] [b, c] = false := by with_unfolding_all rfl) : JT X W KE (.Compare a [op, op'] [b, c] pos) n μ kb :=
  jt_of (pt_chain ho ho' peC peC peC hm) fun σ H Q ev rp t q => by
    refine h σ H _ ev rp t fun u x H1 μ1 h1 s1 r1 d1 => ?_
    refine h1 σ H1 _ (ev.step s1) r1 (t.step s1) fun v y H2 μ2 h2 s2 r2 d2 => ?_
    refine h2 u v H2 _ r2 (d1.step s2) d2 fun z d3 H3 μ3 h3 s3 r3 d3' => ?_
    obtain ⟨b, rfl, ht, hf⟩ := h3
    cases d3'
    refine ⟨b, rfl, ?_⟩
    have s13 := (s1.trans s2).trans s3
    cases b with
    | true =>
      rw [if_pos rfl]
      refine ht rfl σ H3 _ (ev.step s13) r3 (t.step s13) fun w y4 H4 μ4 h4 s4 r4 d4 => ?_
      refine h4 v w H4 _ r4 (d2.step (s3.trans s4)) d4 fun w5 d5 H5 μ5 h5 s5 r5 d5' => ?_
      obtain ⟨c, rfl, h6⟩ := h5
      cases d5'
      exact ⟨c, rfl, q _ _ μ5 h6 ((s13.trans s4).trans s5) r5⟩
    | false =>
      rw [if_neg Bool.false_ne_true]
      exact ⟨false, rfl, q _ _ μ3 (hf rfl) s13 r3⟩
theorem d_lenM {α : Type} {f : α → Dv} {k : DK} {K : Kf} {x : Dv} {xs : List α} (l : SqD μ x (xs.map f)) (h : k (.int xs.length) μ) : DCl K (rLenA K) [x] μ k := d_lenL l (by rw [List.length_map]; exact h)
theorem je_frz {k : DK} {e : Expr} (h : JE X W KE e n μ fun d μ' => ∃ a xs, d = .obj a ∧ μ' a = some (.lst xs) ∧ k (.lst xs) (delM μ' a)) : JE X W KE e n μ k := fun σ H Q ev rp t q => by
  refine h σ H Q ev rp t fun v d H' μ' h1 s1 r1 d1 => ?_
  obtain ⟨a, xs, rfl, ha, hk⟩ := h1
  cases d1
  obtain ⟨vs, e1, rr⟩ := r1 _ _ ha
  exact q _ _ _ _ hk (s1.trans (Step.freeze ha)) (r1.freeze ha) (.lst e1 delM_same (rr.step (Step.freeze ha)))
theorem env_put {K : Kf} {μ : M} {H : Hp} {σ : L2.St} {n : En} {i : Nat} {v : V} {d : Dv} (ev : Env K μ H σ n) (hs : σ[i]? = some (some v)) (r : DRep K μ H v d) : Env K μ H σ (n.set i (some d)) := by
  refine ⟨by rw [List.length_set]; exact ev.1, fun j x q => ?_⟩
  by_cases z : i = j
  · subst z
    by_cases hl : i < n.length
    · rw [List.getElem?_set_self hl] at q
      cases q
      exact ⟨v, hs, r⟩
    · rw [List.getElem?_eq_none (by rw [List.length_set]; omega)] at q
      cases q
  · rw [List.getElem?_set_ne z] at q
    exact ev.2 j x q
theorem jb_freeze {sts : List Stmt} {P : Ed} (i : Nat) {a : Addr} {xs : List Dv} (hn : n[i]? = some (some (.obj a))) (ha : μ a = some (.lst xs)) (h : JB X W KE sts (n.set i (some (.lst xs))) (delM μ a) P) : JB X W KE sts n μ P := fun σ H D ev rp t q => by
  obtain ⟨v, hs, dv⟩ := ev.2 i _ hn
  cases dv
  obtain ⟨vs, e1, rr⟩ := rp _ _ ha
  refine h σ H D (env_put (ev.step (Step.freeze ha)) hs (.lst e1 delM_same (rr.step (Step.freeze ha)))) (rp.freeze ha) (t.step (Step.freeze ha)) (q.step (Step.freeze ha))
end
def cutG {α : Type} (xs : List α) (lo hi : Option Int) : List α := (xs.drop (HT.sIx xs.length 0 lo)).take (HT.sIx xs.length xs.length hi - HT.sIx xs.length 0 lo)
theorem cutD_map {α : Type} (f : α → Dv) (xs : List α) (lo hi : Option Int) : cutD (xs.map f) lo hi = (cutG xs lo hi).map f := by
  unfold cutD cutG
  rw [List.length_map, List.map_take, List.map_drop]
theorem cutG_len {α : Type} (xs : List α) (lo hi : Option Int) : (cutG xs lo hi).length ≤ xs.length := by
  unfold cutG
  rw [List.length_take, List.length_drop]
  omega
theorem cutG_mem {α : Type} {xs : List α} {lo hi : Option Int} {x : α} (h : x ∈ cutG xs lo hi) : x ∈ xs := List.mem_of_mem_drop (List.mem_of_mem_take h)
end DL

/-! ## more operators, more calls -/
namespace DL
open PySem PySem.Spec L2
section
variable {X : Cx}
theorem bl_beq (a b : Bool) : (Value.bool a == Value.bool b) = decide (a = b) := by cases a <;> cases b <;> rfl
def rIsB (neg : Bool) : R2 := fun x y H Q => ∃ a b, x = .bl a ∧ y = .bl b ∧ Q (.bl (if neg then !decide (a = b) else decide (a = b))) H
theorem op_isB : OpR X (compareOp .Is) (rIsB false) := by
  intro pins s σ H x y v u Q I rx ry h
  obtain ⟨a, b, rfl, rfl, q⟩ := h
  cases (show v = Value.bool a from rx)
  cases (show u = Value.bool b from ry)
  exact wpAny_is_plain rfl (fin_bl I q (bl_beq a b).symm)
theorem op_isnotB : OpR X (compareOp .IsNot) (rIsB true) := by
  intro pins s σ H x y v u Q I rx ry h
  obtain ⟨a, b, rfl, rfl, q⟩ := h
  cases (show v = Value.bool a from rx)
  cases (show u = Value.bool b from ry)
  exact wpAny_isNot_plain rfl (fin_bl I q (congrArg not (bl_beq a b).symm))
end
section
variable {X : Cx} {W : WX} {KE : XD} {e a b c : Expr} {n : En} {μ : M} {k : DK} {kb : Bool → M → Prop} {pos : Pos} {kl : Nat} {K : Kf}
theorem je_isB (h : JE X W KE a n μ fun x μ1 => JE X W KE b n μ1 fun y μ2 => DOp X.K (rIsB false) x y μ2 k) (hm : behindInMarks .Is b = false := by exact nomark _) : JE X W KE (.Compare a [.Is] [b] pos) n μ k := je_cmp op_isB hm h
theorem jt_isB (h : JE X W KE a n μ fun x μ1 => JE X W KE b n μ1 fun y μ2 => DOp X.K (rIsB false) x y μ2 (kB kb)) (hm : behindInMarks .Is b = false := by exact nomark _) : JT X W KE (.Compare a [.Is] [b] pos) n μ kb := jt_cmp op_isB hm h
theorem je_isnotB (h : JE X W KE a n μ fun x μ1 => JE X W KE b n μ1 fun y μ2 => DOp X.K (rIsB true) x y μ2 k) (hm : behindInMarks .IsNot b = false := by exact nomark _) : JE X W KE (.Compare a [.IsNot] [b] pos) n μ k := je_cmp op_isnotB hm h
theorem jt_isnotB (h : JE X W KE a n μ fun x μ1 => JE X W KE b n μ1 fun y μ2 => DOp X.K (rIsB true) x y μ2 (kB kb)) (hm : behindInMarks .IsNot b = false := by exact nomark _) : JT X W KE (.Compare a [.IsNot] [b] pos) n μ kb := jt_cmp op_isnotB hm h
theorem d_isB {p q : Bool} (h : k (.bl (decide (p = q))) μ) : DOp K (rIsB false) (.bl p) (.bl q) μ k := fun u v H Q r du dv t => by
  cases du; cases dv
  exact ⟨p, q, rfl, rfl, tl_pure t h r (.bl _)⟩
theorem d_isnotB {p q : Bool} (h : k (.bl (!decide (p = q))) μ) : DOp K (rIsB true) (.bl p) (.bl q) μ k := fun u v H Q r du dv t => by
  cases du; cases dv
  exact ⟨p, q, rfl, rfl, tl_pure t h r (.bl _)⟩
/-- x in l, x not in l: all data -/
theorem je_in (c : Cok kl X W) (h : JE X W KE a n μ fun x μ1 => JE X W KE b n μ1 fun y μ2 => DOp X.K (rInD X.K) x y μ2 k) (hm : behindInMarks .In b = false := by rfl) : JE X W KE (.Compare a [.In] [b] pos) n μ k := je_cmp (op_inD (by have := c.room.un; omega)) hm h
theorem jt_in (c : Cok kl X W) (h : JE X W KE a n μ fun x μ1 => JE X W KE b n μ1 fun y μ2 => DOp X.K (rInD X.K) x y μ2 (kB kb)) (hm : behindInMarks .In b = false := by rfl) : JT X W KE (.Compare a [.In] [b] pos) n μ kb := jt_cmp (op_inD (by have := c.room.un; omega)) hm h
theorem d_inD {x y : Dv} {p : PyData} {qs : List PyData} (hx : toPy x = some p) (hy : toPy y = some (.list qs)) (sp : SeqAt.shaped p = true) (sq : SeqAt.shaped (.list qs) = true) (h : k (.bl (qs.any fun z => PyData.eqv z p)) μ) : DOp K (rInD K) x y μ k := fun u v H Q r du dv t =>
  ⟨p, qs, du.dp hx, dv.dp hy, sp, sq, tl_pure t h r (.bl _)⟩
theorem any_eqvE {α : Type} [DecidableEq α] (E : Enc α) (x : α) : ∀ xs : List α, ((xs.map E.py).any fun z => PyData.eqv z (E.py x)) = decide (x ∈ xs)
  | [] => rfl
  | y :: ys => by
    rw [List.map_cons, List.any_cons, E.eqv, any_eqvE E x ys]
    by_cases h : y = x
    · subst h; simp
    · have : ¬ x = y := fun z => h z.symm
      simp [h, this]
theorem d_inE {α : Type} [DecidableEq α] (E : Enc α) (hn : E.n + 1 ≤ 64) {x : α} {xs : List α} {d e : Dv} (hd : d = E.dv x := by rfl) (he : e = .lst (xs.map E.dv) := by rfl) (h : k (.bl (decide (x ∈ xs))) μ) : DOp K (rInD K) d e μ k := by
  subst hd; subst he
  exact d_inD (E.toPy x) (E.list.toPy xs) (E.shaped (by omega) x) (E.list.shaped hn xs) (by rw [any_eqvE]; exact h)
end
/-- None or an encoded thing -/
def Enc.opt : Enc (Option Int) where
  dv o := match o with
    | none => .non
    | some i => .int i
  py o := match o with
    | none => .none
    | some i => .int i
  n := 0
  toPy o := by cases o <;> (unfold DL.toPy; rfl)
  lay o := by cases o <;> (unfold PyData.canLay0; rfl)
  dep o := by cases o <;> (unfold PyData.depth; exact Nat.le_refl _)
  eqv x y := by
    cases x with
    | none => cases y with
      | none => unfold PyData.eqv; rfl
      | some y => unfold PyData.eqv; rfl
    | some x => cases y with
      | none => unfold PyData.eqv; rfl
      | some y =>
        show PyData.eqv (.int x) (.int y) = _
        have := Enc.int.eqv x y
        rw [show Enc.int.py x = PyData.int x from rfl, show Enc.int.py y = PyData.int y from rfl] at this
        rw [this]; simp
end DL
namespace DL
open PySem PySem.Spec L2
section
variable {X : Cx} {scope : Scope} {ifs : List Expr} {elt : Expr} {i : Nat} {n : En} {k : DK}
/-- a comprehension over encoded things, that changes nothing -/
theorem lc_map {α : Type} (dv : α → Dv) (xs : List α) (g : α → Option Dv) {s : Src} {μ1 : M} (hs : s.items = xs.map dv) (hok : s.Ok μ1) (hl : xs.length < sizeLine)
    (h : ∀ (j : Nat) (x : α) (μ' : M), xs[j]? = some x → ExtM μ1 μ' → LcTurn X scope ifs elt ((n.set i none).set i (some (dv x))) μ' fun o μ3 => o = g x ∧ μ3 = μ') (hk : k (.lst (xs.filterMap g)) μ1) : LcAll X scope ifs elt i n k s μ1 := fun a ha => by
  have ex : ∀ acc, ExtM μ1 (updM μ1 a (.lst acc)) := fun acc b u e => by rw [updM_ne (ne_ofM e ha)]; exact e
  refine ⟨fun j acc μ' => acc = (xs.take j).filterMap g ∧ μ' = updM μ1 a (.lst acc), ⟨rfl, rfl⟩, ?_, ?_, ?_⟩
  · rintro j acc μ' ⟨rfl, rfl⟩
    refine ⟨hok.ext (ex _), updM_same, Nat.lt_of_le_of_lt (List.length_filterMap_le _ _) ?_⟩
    rw [List.length_take]; omega
  · rintro j x acc μ' hx ⟨rfl, rfl⟩
    rw [hs, List.getElem?_map] at hx
    cases hxx : xs[j]? with
    | none => rw [hxx] at hx; cases hx
    | some x0 =>
    rw [hxx] at hx
    cases hx
    have ht : (xs.take (j + 1)).filterMap g = (xs.take j).filterMap g ++ (match g x0 with | some y => [y] | none => []) := by
      rw [List.take_add_one, List.filterMap_append, hxx]
      cases e : g x0 with
      | none => simp [e]
      | some y => simp [e]
    intro s1 H1 C1 cl1 fp1
    have hT := h j x0 _ hxx (ex ((xs.take j).filterMap g)) s1 H1 C1 cl1 fp1
    have go : ∀ (b : Bool) (μ2 : M), ((b = true → ∀ (sS : Shared) (H : Hp) (C : Addr) (cl : List (Str × Addr)) (fp : List Addr), JE (X.blk sS H scope (compEnvC scope cl C X.env) fp) W0 KE0 elt ((n.set i none).set i (some (dv x0))) μ2 fun y μ3 => some y = g x0 ∧ μ3 = updM μ1 a (.lst ((xs.take j).filterMap g))) ∧ (b = false → none = g x0 ∧ μ2 = updM μ1 a (.lst ((xs.take j).filterMap g)))) →
        ((b = true → ∀ (sS : Shared) (H : Hp) (C : Addr) (cl : List (Str × Addr)) (fp : List Addr), JE (X.blk sS H scope (compEnvC scope cl C X.env) fp) W0 KE0 elt ((n.set i none).set i (some (dv x0))) μ2 fun y μ3 => μ3 a = some (.lst ((xs.take j).filterMap g)) ∧ ((xs.take j).filterMap g ++ [y] = (xs.take (j + 1)).filterMap g ∧ updM μ3 a (.lst ((xs.take j).filterMap g ++ [y])) = updM μ1 a (.lst ((xs.take j).filterMap g ++ [y])))) ∧ (b = false → (xs.take j).filterMap g = (xs.take (j + 1)).filterMap g ∧ μ2 = updM μ1 a (.lst ((xs.take j).filterMap g)))) := fun b μ2 z => ⟨fun hb sS H C cl fp => (z.1 hb sS H C cl fp).mono fun y μ3 ⟨z1, z2⟩ => by
          subst z2
          exact ⟨updM_same, by rw [ht, ← z1], updM_updM⟩, fun hb => by
          obtain ⟨z1, z2⟩ := z.2 hb
          exact ⟨by rw [ht, ← z1, List.append_nil], z2⟩⟩
    match ifs, hT with
    | [], hT => exact go _ _ hT
    | [c], hT => exact JT.mono hT fun b μ2 z => go _ _ z
  · rintro acc μ' ⟨rfl, rfl⟩
    rw [hs, List.length_map, List.take_length]
    exact .inl (by rw [delM_updM ha]; exact hk)
end
end DL
namespace DL
open PySem PySem.Spec L2
section
variable {X : Cx} {W : WX} {KE : XD} {a b c e : Expr} {rest : List Expr} {n : En} {μ : M} {k : DK} {kb : Bool → M → Prop} {pos : Pos}
theorem JW.mono {kb kb' : Bool → M → Prop} (h : JW X W KE e n μ kb) (m : ∀ b μ', kb b μ' → kb' b μ') : JW X W KE e n μ kb' := fun σ H Q ev rp t q => h σ H Q ev rp t fun b H' μ' hk s r => q b H' μ' (m b μ' hk) s r
/-- tests that change nothing, told by their values -/
theorem jw_andP (v1 v2 : Bool) (h1 : JT X W KE a n μ fun c μ' => c = v1 ∧ μ' = μ) (h2 : v1 = true → JW X W KE (.BoolOp .And (b :: rest) pos) n μ fun c μ' => c = v2 ∧ μ' = μ) (hk : kb (v1 && v2) μ) : JW X W KE (.BoolOp .And (a :: b :: rest) pos) n μ kb :=
  jw_and (h1.mono fun c μ' ⟨e1, e2⟩ => by
    subst e1; subst e2
    refine ⟨fun z => (h2 z).mono fun d μ2 ⟨e3, e4⟩ => ?_, fun z => ?_⟩
    · subst e3; subst e4; rw [z] at hk; exact hk
    · rw [z] at hk; exact hk)
theorem jw_orP (v1 v2 : Bool) (h1 : JT X W KE a n μ fun c μ' => c = v1 ∧ μ' = μ) (h2 : v1 = false → JW X W KE (.BoolOp .Or (b :: rest) pos) n μ fun c μ' => c = v2 ∧ μ' = μ) (hk : kb (v1 || v2) μ) : JW X W KE (.BoolOp .Or (a :: b :: rest) pos) n μ kb :=
  jw_or (h1.mono fun c μ' ⟨e1, e2⟩ => by
    subst e1; subst e2
    refine ⟨fun z => ?_, fun z => (h2 z).mono fun d μ2 ⟨e3, e4⟩ => ?_⟩
    · rw [z] at hk; exact hk
    · subst e3; subst e4; rw [z] at hk; exact hk)
theorem je_andP (v1 v2 : Bool) (h1 : JE X W KE a n μ fun d μ' => d = .bl v1 ∧ μ' = μ) (h2 : v1 = true → JE X W KE (.BoolOp .And (b :: rest) pos) n μ fun d μ' => d = .bl v2 ∧ μ' = μ) (hk : k (.bl (v1 && v2)) μ) : JE X W KE (.BoolOp .And (a :: b :: rest) pos) n μ k :=
  je_and (h1.mono fun d μ' ⟨e1, e2⟩ => by
    subst e1; subst e2
    refine ⟨v1, rfl, fun z => (h2 z).mono fun d μ2 ⟨e3, e4⟩ => ?_, fun z => ?_⟩
    · subst e3; subst e4; rw [z] at hk; exact hk
    · rw [z] at hk; exact hk)
theorem je_orP (v1 v2 : Bool) (h1 : JE X W KE a n μ fun d μ' => d = .bl v1 ∧ μ' = μ) (h2 : v1 = false → JE X W KE (.BoolOp .Or (b :: rest) pos) n μ fun d μ' => d = .bl v2 ∧ μ' = μ) (hk : k (.bl (v1 || v2)) μ) : JE X W KE (.BoolOp .Or (a :: b :: rest) pos) n μ k :=
  je_or (h1.mono fun d μ' ⟨e1, e2⟩ => by
    subst e1; subst e2
    refine ⟨v1, rfl, fun z => ?_, fun z => (h2 z).mono fun d μ2 ⟨e3, e4⟩ => ?_⟩
    · rw [z] at hk; exact hk
    · subst e3; subst e4; rw [z] at hk; exact hk)
theorem je_one' {op : BoolOp} (h : JE X W KE a n μ k) : JE X W KE (.BoolOp op [a] pos) n μ k := je_one h
end
end DL
namespace DL
open PySem PySem.Spec L2
section
variable {X : Cx} {W : WX} {KE : XD} {a b c e : Expr} {rest : List Expr} {n : En} {μ : M} {k : DK} {kb : Bool → M → Prop} {pos : Pos} {K : Kf}
theorem DOp.mono {r : R2} {x y : Dv} {k k' : DK} (h : DOp K r x y μ k) (m : ∀ d μ', k d μ' → k' d μ') : DOp K r x y μ k' := fun u v H Q rp du dv t => h u v H Q rp du dv fun w d H' μ' hk => t w d H' μ' (m d μ' hk)
theorem je_chainP {op op' : CmpOp} {r r' : R2} (ho : OpR X (compareOp op) r) (ho' : OpR X (compareOp op') r') (v1 v2 : Bool) (hm : lastMarks [op, op'] [b, c] = false)
    (h : JE X W KE a n μ fun x μ1 => JE X W KE b n μ1 fun y μ2 => DOp X.K r x y μ2 fun z μ3 => (z = .bl v1 ∧ μ3 = μ) ∧ (v1 = true → JE X W KE c n μ3 fun w μ4 => DOp X.K r' y w μ4 fun z' μ5 => z' = .bl v2 ∧ μ5 = μ))
    (hk : k (.bl (v1 && v2)) μ) : JE X W KE (.Compare a [op, op'] [b, c] pos) n μ k :=
  je_chain ho ho' (h.mono fun x μ1 h1 => h1.mono fun y μ2 h2 => h2.mono fun z μ3 ⟨⟨e1, e2⟩, h3⟩ => by
    subst e1; subst e2
    refine ⟨v1, rfl, fun z => (h3 z).mono fun w μ4 h4 => h4.mono fun z' μ5 ⟨e3, e4⟩ => ?_, fun z => ?_⟩
    · subst e3; subst e4; rw [z] at hk; exact hk
    · rw [z] at hk; exact hk) hm
theorem jt_chainP {op op' : CmpOp} {r r' : R2} (ho : OpR X (compareOp op) r) (ho' : OpR X (compareOp op') r') (v1 v2 : Bool) (hm : lastMarks [op, op'] [b, c] = false)
    (h : JE X W KE a n μ fun x μ1 => JE X W KE b n μ1 fun y μ2 => DOp X.K r x y μ2 fun z μ3 => (z = .bl v1 ∧ μ3 = μ) ∧ (v1 = true → JE X W KE c n μ3 fun w μ4 => DOp X.K r' y w μ4 fun z' μ5 => z' = .bl v2 ∧ μ5 = μ))
    (hk : kb (v1 && v2) μ) : JT X W KE (.Compare a [op, op'] [b, c] pos) n μ kb :=
  jt_chain ho ho' (h.mono fun x μ1 h1 => h1.mono fun y μ2 h2 => h2.mono fun z μ3 ⟨⟨e1, e2⟩, h3⟩ => by
    subst e1; subst e2
    refine ⟨v1, rfl, fun z => (h3 z).mono fun w μ4 h4 => h4.mono fun z' μ5 ⟨e3, e4⟩ => ?_, fun z => ?_⟩
    · subst e3; subst e4; exact ⟨_, rfl, by rw [z] at hk; exact hk⟩
    · rw [z] at hk; exact hk) hm
theorem SqD.ext {μ' : M} {d : Dv} {xs : List Dv} (l : SqD μ d xs) (e : ExtM μ μ') : SqD μ' d xs := by
  cases l with
  | lst => exact .lst _
  | fro => exact .fro _
  | obj h => exact .obj (e _ _ h)
/-- a list, mutable or not, as data -/
theorem SqD.dp {H : Hp} {v : V} {d : Dv} {xs : List Dv} {qs : List PyData} (l : SqD μ d xs) (r : Rep K μ H) (q : DRep K μ H v d) (e : toPys xs = some qs) : Dp K H v (.list qs) := by
  cases l with
  | lst => exact q.dp (by unfold DL.toPy; rw [e]; rfl)
  | fro => exact q.dp (by unfold DL.toPy; rw [e]; rfl)
  | obj h => exact q.thaw r h e
theorem d_eqSS {x y : Dv} {xs ys : List Dv} {ps qs : List PyData} (lx : SqD μ x xs) (ly : SqD μ y ys) (hx : toPys xs = some ps) (hy : toPys ys = some qs) (sp : SeqAt.shaped (.list ps) = true) (sq : SeqAt.shaped (.list qs) = true) (h : k (.bl (PyData.eqv (.list ps) (.list qs))) μ) : DOp K (rEqA K) x y μ k := fun u v H Q r du dv t =>
  .inr ⟨_, _, lx.dp r du hx, ly.dp r dv hy, sp, sq, tl_pure t h r (.bl _)⟩
theorem d_neSS {x y : Dv} {xs ys : List Dv} {ps qs : List PyData} (lx : SqD μ x xs) (ly : SqD μ y ys) (hx : toPys xs = some ps) (hy : toPys ys = some qs) (sp : SeqAt.shaped (.list ps) = true) (sq : SeqAt.shaped (.list qs) = true) (h : k (.bl (!PyData.eqv (.list ps) (.list qs))) μ) : DOp K (rNeA K) x y μ k := fun u v H Q r du dv t =>
  .inr ⟨_, _, lx.dp r du hx, ly.dp r dv hy, sp, sq, tl_pure t h r (.bl _)⟩
/-- two lists of encoded things -/
theorem d_eqSE {α : Type} [DecidableEq α] (E : Enc α) (hn : E.n + 1 ≤ 64) {x y : Dv} {xs ys : List α} (lx : SqD μ x (xs.map E.dv)) (ly : SqD μ y (ys.map E.dv)) (h : k (.bl (decide (xs = ys))) μ) : DOp K (rEqA K) x y μ k :=
  d_eqSS lx ly (toPys_map E xs) (toPys_map E ys) (E.list.shaped hn xs) (E.list.shaped hn ys) (by rw [show PyData.eqv (.list (xs.map E.py)) (.list (ys.map E.py)) = decide (xs = ys) from E.list.eqv xs ys]; exact h)
theorem d_neSE {α : Type} [DecidableEq α] (E : Enc α) (hn : E.n + 1 ≤ 64) {x y : Dv} {xs ys : List α} (lx : SqD μ x (xs.map E.dv)) (ly : SqD μ y (ys.map E.dv)) (h : k (.bl (!decide (xs = ys))) μ) : DOp K (rNeA K) x y μ k :=
  d_neSS lx ly (toPys_map E xs) (toPys_map E ys) (E.list.shaped hn xs) (E.list.shaped hn ys) (by rw [show PyData.eqv (.list (xs.map E.py)) (.list (ys.map E.py)) = decide (xs = ys) from E.list.eqv xs ys]; exact h)
/-- the last one of a list -/
theorem d_ixLast {α : Type} (f : α → Dv) {x : Dv} {xs : List α} {p : α} (l : SqD μ x (xs.map f)) (hp : xs.getLast? = some p) (h : k (f p) μ) : DOp K (rIx K) x (.int (-1)) μ k :=
  d_ixL l (d := f p) (by
    have hne : xs ≠ [] := by intro z; subst z; cases hp
    have hl : 0 < xs.length := List.length_pos_iff.mpr hne
    rw [List.getLast?_eq_getElem?] at hp
    unfold L2.atI L2.ixN
    rw [List.length_map, if_neg (by omega)]
    rw [show (if -(xs.length : Int) ≤ -1 then some (-1 + (xs.length : Int)).toNat else none) = some (xs.length - 1) by rw [if_pos (by omega)]; congr 1; omega]
    show (xs.map f)[xs.length - 1]? = _
    rw [List.getElem?_map, hp]
    rfl) h
end
end DL
namespace DL
open PySem PySem.Spec L2
theorem d_powE {K : Kf} {μ : M} {k : DK} {i j v : Int} (hc : CPow i j) (e : i ^ j.toNat = v) (h : k (.int v) μ) : DOp K (rI CPow fun i j => V.int (i ^ j.toNat)) (.int i) (.int j) μ k := d_powI hc (by rw [e]; exact h)
end DL

/-! ## Exceptions as data -/
namespace DL
open PySem PySem.Spec L2
section
variable {X : Cx} {pins : List (Addr × Obj)} {σ : L2.St} {H : Hp} {s : Shared}
/-- an object of ours that was not tracked is tracked from now on -/
theorem inv_adopt {z : Addr} {u : HO} (I : Inv X pins σ H s) (n0 : X.s_0.heap.get? z = none) (nz : H z = none) (nL : X.env.locals ≠ z) (nC : ∀ x c, X.env.cells.lookup x = some c → c ≠ z) (nP : ∀ p ∈ X.pn ++ pins, p.1 ≠ z)
    (new : ObjOk X.prog X.w (upd H z u) s.heap z u) : Inv X pins σ (upd H z u) s where
  ok := I.ok
  os := I.os
  bare := I.bare
  base := ⟨I.base.keep, I.base.slot, fun b o e n hb => by
      have hz : b ≠ z := fun q => by rw [q, n0] at e; cases e
      rw [upd_ne hz]
      exact I.base.free b o e n hb, I.base.there, fun b xs e => by
      have q := I.base.tups b xs e
      rw [upd_ne (ne_of_none q nz)]
      exact q, fun b o w e => by
      have q := I.base.frzs b o w e
      rw [upd_ne (ne_of_none q nz)]
      exact q, fun b ps e => by
      obtain ⟨m, q⟩ := I.base.tbls b ps e
      exact ⟨m, by rw [upd_ne (ne_of_none q nz)]; exact q⟩⟩
  loc := I.loc
  cell := I.cell
  free := by rw [upd_ne nL]; exact I.free
  freeC := fun x c e => by rw [upd_ne (nC x c e)]; exact I.freeC x c e
  pin := fun p hp => by
    obtain ⟨e, n, q⟩ := I.pin p hp
    exact ⟨e, by rw [upd_ne (nP p hp)]; exact n, q⟩
  hok := HOk.laidN I.hok (fun _ _ e => e) nz new
  len := I.len
/-- the context of an except suite whose exception is tracked -/
abbrev suiteK (X : Cx) (z : Addr) (pn : List (Addr × Obj)) : Cx := { X with A := X.A.mark (some (.ref z)), calm := false, pn := pn, xe := fun _ _ => False }
theorem inv_suiteK {z : Addr} (I : Inv X pins σ H s) : Inv (suiteK X z (X.pn ++ pins)) [] σ H s :=
  ⟨Cx.Ok.suite I.ok z _, I.os, I.bare, I.base, I.loc, I.cell, I.free, I.freeC, fun p hp => I.pin p (by rw [List.append_nil] at hp; exact hp), I.hok, I.len⟩
theorem inv_offK {z : Addr} {pq : List (Addr × Obj)} (I : Inv (suiteK X z (X.pn ++ pins)) pq σ H s) (ok : X.Ok) : Inv X pins σ H s :=
  ⟨ok, I.os, I.bare, I.base, I.loc, I.cell, I.free, I.freeC, fun p hp => I.pin p (List.mem_append_left _ hp), I.hok, I.len⟩
theorem exD_ok {P : Program} {w : World} {h : Heap} {z : Addr} {cl : Value} {d : Option Addr} {oe : Obj} {vs : Array Value} (e : h.get? z = some oe) (q : Zc cl d oe) (f : oe.data = .fields vs) : ObjOk P w (upd H z (ExD cl d z)) h z (ExD cl d z) :=
  ⟨⟨oe, vs, e, q, f⟩, ⟨oe, e⟩, fun _ _ ⟨o, v, q, r⟩ k => ⟨o, v, k o q, r⟩⟩
end
/-- what the clause 'except x as n' wishes, the exception kept as a tracked thing -/
def wKeep (K : Kf) (cv : Value) (i : Nat) (ts : TS) (Wout : WX) (D : Ends) : WX := fun cl d σ H =>
  ∃ b, PySem.W.exmOne K cl cv = some b ∧
    (b = true → ∀ z, H z = none → ts ⟨fun σ1 H1 => D.nx (σ1.set i none) H1, D.rt, fun σ1 H1 => D.bk (σ1.set i none) H1, fun σ1 H1 => D.ct (σ1.set i none) H1⟩ (σ.set i (some (.ref z))) (upd H z (ExD cl d z))) ∧
    (b = false → Wout cl d σ H)
section
variable {X : Cx} {x n : Str} {cv : Value} {i : Nat} {body suite : List Stmt} {b₀ : Stmt} {np pos pos' : Pos} {tb : WX → TS} {ts : TS} {Wout : WX}
/-- try: body; except x as n: suite -/
theorem ps_try_keep (hs : X.stack = X.env :: X.outer) (hf : X.env.frame = some X.env.locals) (hx : X.ex = []) (hN : X.N.Nodup) (hi : X.N[i]? = some n)
    (hln : X.env.kindOf n = some .local) (hc : Names X x cv) (tk : Takes X Wout)
    (hb : ∀ (W1 : WX) (pq : List (Addr × Obj)) (xe : Value → Shared → Prop), Takes (X.tr pq xe) W1 →
      PassesOwn (model X.prog X.w) X.A X.env xe → PSs (X.tr pq xe) body (tb W1))
    (hsu : ∀ (z : Addr) (pq : List (Addr × Obj)), PSs (suiteK X z pq) (b₀ :: suite) ts) :
    PS X (.Try body [.ExceptHandler (some (.Name x np)) (some n) (b₀ :: suite) pos'] [] [] pos)
      (fun D σ H => tb (wKeep X.K cv i ts Wout D) D σ H) := by
  refine ⟨fun pins s σ H D I h => wpAny_Try_except ?_⟩
  have okX := I.ok
  have hframes : X.A.frames = some (X.env :: X.outer) := by rw [okX.frames, hs]
  have locn : Loc X.env.scope n := .inl hln
  have body1 := hb (wKeep X.K cv i ts Wout D) (X.pn ++ pins)
    (fun ev q1 => wpAny (model X.prog X.w) X.A (noteFrame ev X.env) (fun _ q2 =>
      wpAny (model X.prog X.w) X.A (setFlight ev none) (fun _ q3 =>
        wpAny (model X.prog X.w) X.A (handleBy ev X.env [.ExceptHandler (some (.Name x np)) (some n) (b₀ :: suite) pos'])
          (SP X pins D) X.xe q3) X.xe q2) X.xe q1) ?land PassesOwn.looking
  case land =>
    intro ev q0 air
    obtain ⟨z, G, sB, pq, σ1, H1, cl, d, rfl, Jt, below, ups, sky, nz, hos, gens, b, hexm, yes, no⟩ := air
    have Jx : Inv X pins σ1 H1 sB := Jt.ofTry okX
    have skyX : Sky G (X.env :: X.outer) z (Zc cl d) X.env.locals q0.heap := by rw [← hs]; exact sky
    show wpAny (model X.prog X.w) X.A (noteFrame (.ref z) X.env) _ _ _
    refine Sky.land Zc.steady hframes hf skyX fun hp1 fly1 upA => ?_
    have I1 : Inv X pins σ1 H1 { q0 with heap := hp1 } := Jx.landed below fly1.1 (ups.trans upA) hos gens
    obtain ⟨o1, w1, ge1, zc1, dat1⟩ := fly1.there
    have off : z ∉ frs (X.env :: X.outer) := fun hm => by
      obtain ⟨_, o', e', hnf⟩ := fly1.2.2.1.mem hm
      rw [ge1] at e'
      cases e'
      exact hnf _ dat1
    have offL : z ≠ X.env.locals := fun q => off (List.mem_filterMap.mpr ⟨X.env, List.mem_cons_self, by rw [hf, q]⟩)
    have offF : z ∉ X.fs := fun hm => by
      obtain ⟨e, he, q⟩ := List.mem_filterMap.mp hm
      exact off (List.mem_filterMap.mpr ⟨e, List.mem_cons_of_mem _ he, q⟩)
    have suite1 := I1.suite ge1 dat1 nz offL offF
    have newB : sB.heap.get? z = none := by
      cases q : sB.heap.get? z with
      | none => rfl
      | some o =>
        have := below z o q (by rw [hs]; exact off)
        rw [fly1.2.1] at this
        cases this
    have new0 : X.s_0.heap.get? z = none := by
      cases q : X.s_0.heap.get? z with
      | none => rfl
      | some o =>
        obtain ⟨o', e⟩ := Jx.base.there z o q (by rw [hx]; exact fun y => nomatch y)
        rw [newB] at e
        cases e
    refine wpAny_handleBy_cons (codeAny_handlers_test ?_) (by intro q; cases q)
    have looks1 : PySem.W.Looks (model X.prog X.w) hp1 (typeOf (.ref z)) cl := fun A Q E r k q => wpAny_typeOf_ref (k _ _ ge1) (by rw [zc1.1]; exact q)
    have hit := PySem.W.exm_one (M := model X.prog X.w) (I1.kIn) looks1 hexm
    have named : ∀ {Q : Value → Shared → Prop} {E : Value → Shared → Prop}, Q cv { q0 with heap := hp1 } →
        wpAny (model X.prog X.w) (X.A.mark (some (.ref z))) (eval (.Name x np) X.env) Q E { q0 with heap := hp1 } := fun {Q E} q => by
      obtain ⟨hg, hdbg, hm | ⟨hm, hv, hnn⟩⟩ := hc
      · exact ld_glob (X := X.suite z ((z, o1) :: (X.pn ++ pins))) suite1 hg hm q hdbg
      · exact ld_blt (X := X.suite z ((z, o1) :: (X.pn ++ pins))) suite1 hg hm hv q hnn hdbg
    refine named (hit.here ?_)
    cases b with
    | true =>
      refine codeAny_handlers_suite_as (HandSPX.lands_againZ fly1 fun hp2 fly2 upB => ?_)
      have I2 : Inv X pins σ1 H1 { q0 with heap := hp2 } := Jx.landed below fly2.1 ((ups.trans upA).trans upB) hos gens
      obtain ⟨o2, w2, ge2, zc2, dat2⟩ := fly2.there
      have I3 : Inv X pins σ1 (upd H1 z (ExD cl d z)) { q0 with heap := hp2 } := inv_adopt I2 new0 nz (Ne.symm offL)
        (fun y c e q => by
          obtain ⟨v, oc, hoc, hd⟩ := I2.cell y c e
          rw [q, ge2] at hoc
          cases hoc
          rw [dat2] at hd
          cases hd)
        (fun p hp q => by
          have := (Jx.pin p hp).1
          rw [q, newB] at this
          cases this)
        (exD_ok ge2 zc2 dat2)
      refine store_ok (X := suiteK X z (X.pn ++ pins)) (v := .ref z) (inv_suiteK I3) hN hi locn rfl (fun r5 S5 => ?_) (.inr hln)
      refine wpAny_mono ((hsu z (X.pn ++ pins)).run [] r5 _ _ _ S5 (yes rfl z nz)) (fun f r6 hsp => ?_) (fun _ _ y => False.elim y)
      have gone : ∀ {σ6 : L2.St} {H6 : Hp} {Q : Shared → Prop}, Inv (suiteK X z (X.pn ++ pins)) [] σ6 H6 r6 → (∀ r7, Inv X pins (σ6.set i none) H6 r7 → Q r7) →
          wpAny (model X.prog X.w) X.A (do bindName X.env n .none; unbindBehindTheSuite X.env n pos') (fun _ r7 => Q r7) X.xe r6 :=
        fun {σ6 H6 Q} S6 hq => gone_ok (inv_offK S6 okX) hN hi hln hq
      cases f with
      | next =>
        obtain ⟨σ6, H6, S6, w6⟩ := hsp
        exact gone S6 fun r7 J7 => ⟨_, _, J7, w6⟩
      | brk =>
        obtain ⟨σ6, H6, S6, w6⟩ := hsp
        exact gone S6 fun r7 J7 => ⟨_, _, J7, w6⟩
      | cont =>
        obtain ⟨σ6, H6, S6, w6⟩ := hsp
        exact gone S6 fun r7 J7 => ⟨_, _, J7, w6⟩
      | ret u =>
        obtain ⟨v6, σ6, H6, S6, r6', w6⟩ := hsp
        exact gone S6 fun r7 J7 => ⟨_, _, _, J7, r6', w6⟩
    | false =>
      show wpAny _ X.A (handleBy (.ref z) X.env []) _ _ _
      refine wpAny_handleBy_nil ?_
      obtain ⟨k1, k2, k3, oe, vs, T, oT, us, he, hz, hd, h1, hr⟩ := id fly1
      unfold PySem.passOn
      refine wpAny_bind (wpAny_field he hd h1 ?_)
      rw [if_neg (show ¬ ((Value.ref T == Value.none) = true) from by simp)]
      have fin : wpAny (model X.prog X.w) X.A (setFlight (.ref z) X.env.frame)
          (fun _ r4 => wpAny (model X.prog X.w) X.A (throw (.ref z) : Sem Flow) (SP X pins D) X.xe r4) X.xe { q0 with heap := hp1 } := by
        rw [hf]
        refine HandSPX.setFlight_upZ fly1 fun hp4 held upC => wpAny_throw (tk _ _ ?_)
        exact ⟨z, G, sB, pins, σ1, H1, cl, d, rfl, Jx, below, (ups.trans upA).trans upC, .inr (.inr (by rw [hs]; exact held)), nz, hos, gens, no rfl⟩
      first
        | exact wpAny_bind (wpAny_pure (wpAny_bind fin))
        | exact wpAny_bind fin
  refine wpAny_mono (body1.run [] s σ H D (I.toTry _) h) (fun f r1 hsp => ?_) (fun ev r1 he => he)
  cases f with
  | next =>
    obtain ⟨σ1, H1, J1, q⟩ := hsp
    exact wpAny_execs_nil ⟨σ1, H1, J1.ofTry okX, q⟩
  | brk =>
    obtain ⟨σ1, H1, J1, q⟩ := hsp
    exact ⟨σ1, H1, J1.ofTry okX, q⟩
  | cont =>
    obtain ⟨σ1, H1, J1, q⟩ := hsp
    exact ⟨σ1, H1, J1.ofTry okX, q⟩
  | ret u =>
    obtain ⟨v, σ1, H1, J1, r, q⟩ := hsp
    exact ⟨v, σ1, H1, J1.ofTry okX, r, q⟩
end
end DL

namespace DL
open PySem PySem.Spec L2
section
variable {X : Cx} {W : WX} {KE : XD} {e : Expr} {sts body suite : List Stmt} {n : En} {μ : M} {k : DK} {P : Ed} {pos pos' p p2 np : Pos} {x m y : Str} {K : Kf} {kl j i : Nat} {b₀ : Stmt}
/-- an own exception class, below ValueError, without its own __init__ -/
structure Xc (K : Kf) (mg : Str → Option Value) (x : Str) (C : Addr) : Prop where
  q : PySem.W.excIn K C [.type "ValueError", .type "Exception", .type "BaseException", .type "object"] "ValueError.__new__" = true
  g : mg x = some (.ref C)
  k : PySem.W.keepIn K (.ref C) = true
  r1 : PySem.W.subIn K (.ref C) (.type "BaseException") = some true
  r2 : PySem.W.typeIn K (.ref C) = some (.type "type")
theorem js_raise {C : Addr} (c : Cok kl X W) (F : Xc X.K X.mg x C) (h : KE (.ref C) [] n μ) (hg : Gl X x := by rfl) (hdb : (x == ("__debug__" : Str)) = false := by decide) : JS X W KE (.Raise (some (.Call (.Name x p) [.Constant (.str m) j p2] [] pos)) none pos') n μ P :=
  js_of (ps_raise c.calm c.tk (pmk_own PySem.F.excBase_ValueError F.q F.g F.k (raises_own F.r1 F.r2) hg hdb)) fun σ H D ev rp t q =>
    t (.ref C) [] none σ n H μ h ev (Step.refl _ _) rp rfl
theorem js_setN (i : Nat) (nd : X.N.Nodup) (hi : X.N[i]? = some x) (h : JE X W KE e n μ fun d μ' => P.nx (n.set i (some d)) μ') (hx : Loc X.env.scope x := by first | exact Or.inl rfl | exact Or.inr rfl)
    (hs : swapsWith e (some (.Name x pos')) pos.line X.env = pure false := by rfl) (hf : X.fn x = true ∨ X.env.scope.names.lookup x = some .local := by first | exact .inl rfl | exact .inr rfl) : JS X W KE (.Assign [.Name x pos'] e pos) n μ P :=
  js_of (ps_set nd hi hx peC hs hf) fun σ H D ev rp t q => by
    refine h σ H _ ev rp t fun v d H1 μ1 h1 s1 r1 d1 => ?_
    exact q.nx _ _ _ _ h1 ((ev.step s1).set d1 i) s1 r1
theorem exc_rep {H : Hp} {C z : Addr} {d : Option Addr} {fs : List (Str × Dv)} (rp : Rep K μ H) (nz : H z = none) (xr : XRep K μ H d fs) : DRep K μ (upd H z (ExD (.ref C) d z)) (.ref z) (.exc C fs) := by
  cases d with
  | none =>
    have e : fs = [] := xr
    subst e
    exact .exc0 upd_same (rp.free nz)
  | some dd =>
    obtain ⟨vs, e, nd, r⟩ := xr
    exact .exc1 upd_same (rp.free nz) (by rw [upd_ne (ne_of_none e nz)]; exact e) nd (r.step (Step.new nz))
/-- try: body, except x as y: suite; the caught exception is data -/
theorem js_try (i : Nat) {cv : Value} (c : Cok kl X W) (hi : X.N[i]? = some y) (hc : Names X x cv)
    (h : ∀ (pq : List (Addr × Obj)) (xe : Value → Shared → Prop) (W1 : WX), Cok kl (X.tr pq xe) W1 → PassesOwn (model X.prog X.w) X.A X.env xe →
      JB (X.tr pq xe) W1 (fun cls fs n1 μ1 => ∃ b, PySem.W.exmOne X.K cls cv = some b ∧ (b = true → ∃ C, cls = .ref C ∧ ∀ (z : Addr) (pq : List (Addr × Obj)),
        JB (suiteK X z pq) W0 KE0 (b₀ :: suite) (n1.set i (some (.exc C fs))) μ1 { nx := fun n2 μ2 => P.nx (n2.set i none) μ2, rt := P.rt, bk := fun n2 μ2 => P.bk (n2.set i none) μ2, ct := fun n2 μ2 => P.ct (n2.set i none) μ2 }) ∧ (b = false → KE cls fs n1 μ1)) body n μ P)
    (hs : X.stack = X.env :: X.outer := by rfl) (hf : X.env.frame = some X.env.locals := by rfl) (hx : X.ex = [] := by rfl) (hln : X.env.kindOf y = some .local := by rfl) :
    JS X W KE (.Try body [.ExceptHandler (some (.Name x np)) (some y) (b₀ :: suite) pos'] [] [] pos) n μ P :=
  js_of (ps_try_keep (tb := fun W1 D σ H => ∀ (pq : List (Addr × Obj)) (xe : Value → Shared → Prop), Takes (X.tr pq xe) W1 → PassesOwn (model X.prog X.w) X.A X.env xe → cB (X.tr pq xe) body D σ H)
      (ts := fun D σ H => ∀ (z : Addr) (pq : List (Addr × Obj)), cB (suiteK X z pq) (b₀ :: suite) D σ H) hs hf hx c.nd hi hln hc c.tk
      (fun W1 pq xe tk po => ⟨fun pins s σ H D I w => w pq xe tk po pins s I⟩) (fun z pq => ⟨fun pins s σ H D I w => w z pq pins s I⟩)) fun σ H D ev rp t q => by
    intro pq xe tk po
    refine h pq xe _ ⟨c.room, c.calm, tk, c.nd⟩ po σ H D ev rp (fun cls fs d σ1 e1 H1 μ1 hke ev1 st1 rp1 xr => ?_) q
    obtain ⟨b, hexm, yes, no⟩ := hke
    refine ⟨b, hexm, fun hb z nz => ?_, fun hb => t cls fs d σ1 e1 H1 μ1 (no hb) ev1 st1 rp1 xr⟩
    obtain ⟨C, rfl, hz⟩ := yes hb
    intro z2 pq2
    have sN : Step μ1 H1 μ1 (upd H1 z (ExD (.ref C) d z)) := Step.new nz
    have sA := st1.trans sN
    refine hz z2 pq2 _ _ _ ((ev1.step sN).set (exc_rep rp1 nz xr) i) (rp1.new nz) Thr.no ⟨fun σ2 e2 H2 μ2 a b2 c2 d2 => ?_, q.rt.step sA, fun σ2 e2 H2 μ2 a b2 c2 d2 => ?_, fun σ2 e2 H2 μ2 a b2 c2 d2 => ?_⟩
    · exact q.nx _ _ _ _ a (b2.wipe [i]) (sA.trans c2) d2
    · exact q.bk _ _ _ _ a (b2.wipe [i]) (sA.trans c2) d2
    · exact q.ct _ _ _ _ a (b2.wipe [i]) (sA.trans c2) d2
/-! isinstance of an exception -/
def rIsX (K : Kf) : List V → Hp → VK → Prop := fun xs H Q => ∃ (z D : Addr) (c : V) (cv : Value) (b : Bool), xs = [.ref z, c] ∧ (H z = some (ExD (.ref D) none z) ∨ ∃ dd vs, H z = some (ExD (.ref D) (some dd) z) ∧ H dd = some (.xd vs)) ∧ ClsV c cv ∧ ExcC K D ∧ PySem.W.kitOne K (.ref D) cv = some b ∧ Q (.bl b) H
theorem call_isX : CallR X (.builtin "isinstance") (rIsX X.K) := by
  intro pins s σ H xs us Q I r h
  obtain ⟨z, D, c, cv, b, rfl, hz, hc, E, e, q⟩ := h
  cases r with
  | cons rx rr =>
    cases rr with
    | cons rt rr =>
      cases rr
      cases rx
      have ec := hc.eq rt
      subst ec
      rcases hz with hz | ⟨dd, vs, hz, hd⟩
      · obtain ⟨⟨oe, ws, ge, zc, dat⟩, _, _⟩ := I.hok z _ hz
        have J : PySem.W.InstAt s.heap z oe D none := by
          obtain ⟨oc, od, oda, osl⟩ := oe
          obtain ⟨h1, h2⟩ := zc
          dsimp only at h1 h2 dat
          subst h1 h2 dat
          exact ⟨ge, rfl, rfl, trivial⟩
        exact PySem.W.kia_one (PySem.W.handS_kitx_exc E.hg E.hk E.hs E.hd E.ha E.hn E.ht E.hm) I.kIn J e (fun z => nomatch z) fun tk => ⟨.bl b, H, I.kept (t' := tk) fun _ _ z => z, rfl, q⟩
      · obtain ⟨⟨oe, ws, ge, zc, dat⟩, _, _⟩ := I.hok z _ hz
        obtain ⟨mA, ⟨o1, es, ep, hns, _⟩, _⟩ := (show ∃ mA, s.heap.Ns1 dd mA ∧ _ from I.hok dd _ hd)
        have J : PySem.W.InstAt s.heap z oe D (some o1) := by
          obtain ⟨oc, od, oda, osl⟩ := oe
          obtain ⟨h1, h2⟩ := zc
          dsimp only at h1 h2 dat
          subst h1 h2 dat
          exact ⟨ge, rfl, rfl, hns⟩
        obtain ⟨cd, hcd, _⟩ := PySem.W.any_some E.hd
        exact PySem.W.kia_one (PySem.W.kitx_exc (by rw [hcd]; rfl) E.hg E.hk E.hs E.ha E.hn E.ht E.hm) I.kIn J e (fun z => nomatch z) fun tk => ⟨.bl b, H, I.kept (t' := tk) fun _ _ z => z, rfl, q⟩
theorem d_isX {C : Addr} {fs : List (Str × Dv)} {cd : Dv} {u : Value} {b : Bool} (E : ExcC K C) (hc : ClD cd u) (hb : PySem.W.kitOne K (.ref C) u = some b) (h : k (.bl b) μ) : DCl K (rIsX K) [.exc C fs, cd] μ k := fun us H Q r d q => by
  cases d with
  | cons d0 d1 =>
    cases d1 with
    | cons d1 d2 =>
      cases d2
      cases d0 with
      | exc0 hz nz => exact ⟨_, C, _, u, b, rfl, .inl hz, hc.rep d1, E, hb, tl_pure q h r (.bl _)⟩
      | exc1 hz nz hd nd rr => exact ⟨_, C, _, u, b, rfl, .inr ⟨_, _, hz, hd⟩, hc.rep d1, E, hb, tl_pure q h r (.bl _)⟩
end
end DL

/-! ## Dicts -/
namespace DL
open PySem PySem.Spec L2
def valD (kvs : List (Key × Dv)) (k : Key) : Option Dv := (kvs.find? fun kv => decide (kv.1 = k)).map (·.2)
def putKD (kvs : List (Key × Dv)) (k : Key) (v : Dv) : List (Key × Dv) :=
  if (kvs.any fun kv => decide (kv.1 = k)) = true then kvs.map (fun kv => if kv.1 = k then (kv.1, v) else kv) else kvs ++ [(k, v)]
section
variable {K : Kf} {μ : M} {H : Hp}
theorem DKvs.valN {k : Key} : ∀ {vs : List (Key × V)} {ds : List (Key × Dv)}, DKvs K μ H vs ds → valD ds k = none → valV vs k = none
  | _, _, .nil, _ => rfl
  | (f, v) :: vs, (_, d) :: ds, .cons h t, e => by
    unfold valD at e
    unfold valV
    rw [List.find?_cons] at e ⊢
    by_cases z : f = k
    · simp [z] at e
    · simp only [decide_eq_false z] at e ⊢
      exact t.valN e
theorem DKvs.valS {k : Key} {d : Dv} : ∀ {vs : List (Key × V)} {ds : List (Key × Dv)}, DKvs K μ H vs ds → valD ds k = some d → ∃ v, valV vs k = some v ∧ DRep K μ H v d
  | _, _, .nil, e => by cases e
  | (f, v) :: vs, (_, d') :: ds, .cons h t, e => by
    unfold valD at e
    unfold valV
    rw [List.find?_cons] at e ⊢
    by_cases z : f = k
    · simp only [decide_eq_true z, Option.map_some] at e ⊢
      cases e
      exact ⟨v, rfl, h⟩
    · simp only [decide_eq_false z] at e ⊢
      exact t.valS e
theorem DKvs.any {k : Key} : ∀ {vs : List (Key × V)} {ds : List (Key × Dv)}, DKvs K μ H vs ds → (vs.any fun kv => decide (kv.1 = k)) = ds.any fun kv => decide (kv.1 = k)
  | _, _, .nil => rfl
  | _, _, .cons h t => by rw [List.any_cons, List.any_cons, t.any]
theorem DKvs.repl {k : Key} {v : V} {d : Dv} (r : DRep K μ H v d) : ∀ {vs : List (Key × V)} {ds : List (Key × Dv)}, DKvs K μ H vs ds → DKvs K μ H (vs.map fun kv => if kv.1 = k then (kv.1, v) else kv) (ds.map fun kv => if kv.1 = k then (kv.1, d) else kv)
  | _, _, .nil => .nil
  | (f, x) :: vs, (_, y) :: ds, .cons h t => by
    rw [List.map_cons, List.map_cons]
    by_cases z : f = k
    · rw [if_pos z, if_pos z]; exact .cons r (t.repl r)
    · rw [if_neg z, if_neg z]; exact .cons h (t.repl r)
theorem DKvs.snoc {k : Key} {v : V} {d : Dv} (r : DRep K μ H v d) : ∀ {vs : List (Key × V)} {ds : List (Key × Dv)}, DKvs K μ H vs ds → DKvs K μ H (vs ++ [(k, v)]) (ds ++ [(k, d)])
  | _, _, .nil => .cons r .nil
  | _, _, .cons h t => .cons h (t.snoc r)
theorem DKvs.put {k : Key} {v : V} {d : Dv} {vs : List (Key × V)} {ds : List (Key × Dv)} (t : DKvs K μ H vs ds) (r : DRep K μ H v d) : DKvs K μ H (putK vs k v) (putKD ds k d) := by
  unfold putK putKD
  rw [t.any]
  split
  · exact t.repl r
  · exact t.snoc r
theorem DKvs.length : ∀ {vs : List (Key × V)} {ds : List (Key × Dv)}, DKvs K μ H vs ds → vs.length = ds.length
  | _, _, .nil => rfl
  | _, _, .cons _ t => congrArg (· + 1) t.length
/-- a dict, locked or not -/
inductive DicD (μ : M) (a : Addr) (kvs : List (Key × Dv)) : Prop where
  | dic (h : μ a = some (.dic kvs)) | fdc (h : μ a = some (.fdc kvs))
theorem DicD.rep {a : Addr} {kvs : List (Key × Dv)} (h : DicD μ a kvs) (r : Rep K μ H) : ∃ vs, Rd H a (.dK vs) ∧ DKvs K μ H vs kvs := by
  cases h with
  | dic h => obtain ⟨vs, e, q⟩ := r _ _ h; exact ⟨vs, .inl e, q⟩
  | fdc h => obtain ⟨o, vs, e, q⟩ := r _ _ h; exact ⟨vs, .inr ⟨o, e⟩, q⟩
theorem key_rep {u : V} {k : Key} (d : DRep K μ H u (keyD k)) : u = kV k := by
  cases k with
  | inl i => cases d; rfl
  | inr z => cases d; rfl
end
section
variable {X : Cx} {W : WX} {KE : XD} {e f i o value : Expr} {st : Stmt} {n : En} {μ : M} {k : DK} {kb : Bool → M → Prop} {P : Ed} {pos pos' apos cpos : Pos} {kl : Nat} {K : Kf}
theorem je_dget (c : Cok kl X W) (hs : NoSl i) (h : JE X W KE o n μ fun d μ1 => JE X W KE i n μ1 fun y μ2 => ∃ a kvs key v, d = .obj a ∧ DicD μ2 a kvs ∧ y = keyD key ∧ valD kvs key = some v ∧ k v μ2) : JE X W KE (.Subscript o i pos) n μ k :=
  je_of (pe_dget (by have := c.room.un; omega) peC peC hs) fun σ H Q ev rp t q => by
    refine h σ H _ ev rp t fun u d H1 μ1 h1 s1 r1 d1 => ?_
    refine h1 σ H1 _ (ev.step s1) r1 (t.step s1) fun w y H2 μ2 h2 s2 r2 d2 => ?_
    obtain ⟨a, kvs, key, v, rfl, hd, rfl, hv, hk⟩ := h2
    cases d1
    obtain rfl := key_rep d2
    obtain ⟨vs, e1, rr⟩ := hd.rep r2
    obtain ⟨x, ex, dx⟩ := rr.valS hv
    exact ⟨a, x, rfl, .inl ⟨vs, key, e1, rfl, ex.symm⟩, q _ _ _ _ hk (s1.trans s2) r2 dx⟩
theorem dget_of {H : Hp} {a : Addr} {kvs : List (Key × Dv)} {key : Key} (hd : DicD μ a kvs) (r : Rep K μ H) : ∃ o, DGet H a (kV key) o ∧ o.isSome = (valD kvs key).isSome ∧ ∀ d, valD kvs key = some d → ∃ v, o = some v ∧ DRep K μ H v d := by
  obtain ⟨vs, e1, rr⟩ := hd.rep r
  refine ⟨_, .inl ⟨vs, key, e1, rfl, rfl⟩, ?_, fun d e => ?_⟩
  · cases e : valD kvs key with
    | none => rw [rr.valN e]; rfl
    | some d => obtain ⟨v, q, _⟩ := rr.valS e; rw [q]; rfl
  · exact rr.valS e
theorem je_din (c : Cok kl X W) (h : JE X W KE i n μ fun y μ1 => JE X W KE o n μ1 fun d μ2 => ∃ a kvs key, d = .obj a ∧ DicD μ2 a kvs ∧ y = keyD key ∧ k (.bl (valD kvs key).isSome) μ2) (hm : behindInMarks .In o = false := by rfl) : JE X W KE (.Compare i [.In] [o] pos) n μ k :=
  je_of (pe_cmp (pc_din (by have := c.room.un; omega) peC peC) hm) fun σ H Q ev rp t q => by
    refine h σ H _ ev rp t fun u y H1 μ1 h1 s1 r1 d1 => ?_
    refine h1 σ H1 _ (ev.step s1) r1 (t.step s1) fun w d H2 μ2 h2 s2 r2 d2 => ?_
    obtain ⟨a, kvs, key, rfl, hd, rfl, hk⟩ := h2
    cases d2
    obtain rfl := key_rep d1
    obtain ⟨ov, g, e, _⟩ := dget_of (key := key) hd r2
    exact ⟨a, ov, rfl, g, by rw [e]; exact q _ _ _ _ hk (s1.trans s2) r2 (.bl _)⟩
theorem jt_din (c : Cok kl X W) (h : JE X W KE i n μ fun y μ1 => JE X W KE o n μ1 fun d μ2 => ∃ a kvs key, d = .obj a ∧ DicD μ2 a kvs ∧ y = keyD key ∧ kb (valD kvs key).isSome μ2) (hm : behindInMarks .In o = false := by rfl) : JT X W KE (.Compare i [.In] [o] pos) n μ kb :=
  jt_of (pt_cmp (pc_din (by have := c.room.un; omega) peC peC) hm) fun σ H Q ev rp t q => by
    refine h σ H _ ev rp t fun u y H1 μ1 h1 s1 r1 d1 => ?_
    refine h1 σ H1 _ (ev.step s1) r1 (t.step s1) fun w d H2 μ2 h2 s2 r2 d2 => ?_
    obtain ⟨a, kvs, key, rfl, hd, rfl, hk⟩ := h2
    cases d2
    obtain rfl := key_rep d1
    obtain ⟨ov, g, e, _⟩ := dget_of (key := key) hd r2
    exact ⟨a, ov, rfl, g, _, rfl, by rw [e]; exact q _ _ _ hk (s1.trans s2) r2⟩
/-- o[i] = value, o a dict -/
theorem js_dput (c : Cok kl X W) (h : JE X W KE value n μ fun v μ1 => JE X W KE o n μ1 fun d μ2 => JE X W KE i n μ2 fun y μ3 => ∃ a kvs key, d = .obj a ∧ μ3 a = some (.dic kvs) ∧ y = keyD key ∧ kvs.length < sizeLine ∧ P.nx n (updM μ3 a (.dic (putKD kvs key v))))
    (hs : swapsWith value (some (.Subscript o i pos')) pos.line X.env = pure false := by rfl) : JS X W KE (.Assign [.Subscript o i pos'] value pos) n μ P :=
  js_of (ps_dput (by have := c.room.un; omega) peC peC peC hs) fun σ H D ev rp t q => by
    refine h σ H _ ev rp t fun u v H1 μ1 h1 s1 r1 d1 => ?_
    refine h1 σ H1 _ (ev.step s1) r1 (t.step s1) fun w d H2 μ2 h2 s2 r2 d2 => ?_
    refine h2 σ H2 _ (ev.step (s1.trans s2)) r2 (t.step (s1.trans s2)) fun x y H3 μ3 h3 s3 r3 d3 => ?_
    obtain ⟨a, kvs, key, rfl, ha, rfl, hl, hk⟩ := h3
    cases d2
    obtain rfl := key_rep d3
    obtain ⟨vs, e, rr⟩ := r3 _ _ ha
    have s4 := Step.mut (H := H3) (o := .dK (putK vs key u)) (u := .dic (putKD kvs key v)) ha
    have sA := ((s1.trans s2).trans s3).trans s4
    refine ⟨a, _, rfl, .k e (by rw [rr.length]; exact hl), q.nx _ _ _ _ hk (ev.step sA) sA (r3.put s4 ⟨_, upd_same, (rr.step s4).put ((d1.step (s2.trans s3)).step s4)⟩)⟩
/-- a dict is locked while a statement walks over it -/
theorem js_lock {a : Addr} {kvs : List (Key × Dv)} (ha : μ a = some (.dic kvs)) (h : JS X W KE st n (updM μ a (.fdc kvs))
    { nx := fun n1 μ1 => P.nx n1 (updM μ1 a (.dic kvs)), rt := fun d μ1 => P.rt d (updM μ1 a (.dic kvs)), bk := fun n1 μ1 => P.bk n1 (updM μ1 a (.dic kvs)), ct := fun n1 μ1 => P.ct n1 (updM μ1 a (.dic kvs)) }) : JS X W KE st n μ P :=
  js_of (ps_lock psC) fun σ H D ev rp t q => by
    obtain ⟨vs, e, rr⟩ := rp _ _ ha
    refine ⟨a, .dK vs, e, True.intro, fun od => ?_⟩
    have s1 : Step μ H (updM μ a (.fdc kvs)) (upd H a (.frz od (.dK vs))) := Step.mut ha
    have back : ∀ {μ1 : M} {H1 : Hp}, Step (updM μ a (.fdc kvs)) (upd H a (.frz od (.dK vs))) μ1 H1 → Rep X.K μ1 H1 → H1 a = some (.frz od (.dK vs)) ∧ Step μ H (updM μ1 a (.dic kvs)) (upd H1 a (.dK vs)) ∧ Step0 μ1 H1 (updM μ1 a (.dic kvs)) (upd H1 a (.dK vs)) ∧ Rep X.K (updM μ1 a (.dic kvs)) (upd H1 a (.dK vs)) := by
      intro μ1 H1 s2 r2
      obtain ⟨e1, m1⟩ := s2.l a _ kvs upd_same updM_same
      have s0 : Step0 μ1 H1 (updM μ1 a (.dic kvs)) (upd H1 a (.dK vs)) := fun b o hb nb => by
        have ne : b ≠ a := fun z => by rw [z, m1] at nb; cases nb
        exact ⟨by rw [upd_ne ne]; exact hb, by rw [updM_ne ne]; exact nb⟩
      obtain ⟨od2, vs2, e2, rr2⟩ := r2 _ _ m1
      rw [e1] at e2
      cases e2
      refine ⟨e1, ⟨fun b o hb nb => ?_, fun b o k2 hb nb => ?_⟩, s0, fun b o hb => ?_⟩
      · have ne : b ≠ a := fun z => by rw [z, ha] at nb; cases nb
        obtain ⟨x1, x2⟩ := s2.d b o (by rw [upd_ne ne]; exact hb) (by rw [updM_ne ne]; exact nb)
        exact ⟨by rw [upd_ne ne]; exact x1, by rw [updM_ne ne]; exact x2⟩
      · have ne : b ≠ a := fun z => by rw [z, ha] at nb; cases nb
        obtain ⟨x1, x2⟩ := s2.l b o k2 (by rw [upd_ne ne]; exact hb) (by rw [updM_ne ne]; exact nb)
        exact ⟨by rw [upd_ne ne]; exact x1, by rw [updM_ne ne]; exact x2⟩
      · by_cases z : b = a
        · subst z
          rw [updM_same] at hb
          cases hb
          exact ⟨vs, upd_same, DKvs.step0 s0 rr2⟩
        · rw [updM_ne z] at hb
          exact MRep.step0 s0 (upd_ne z) (r2 b o hb)
    have envB : ∀ {μ1 : M} {H1 : Hp} {σ1 : L2.St} {e1 : En}, Step0 μ1 H1 (updM μ1 a (.dic kvs)) (upd H1 a (.dK vs)) → Env X.K μ1 H1 σ1 e1 → Env X.K (updM μ1 a (.dic kvs)) (upd H1 a (.dK vs)) σ1 e1 :=
      fun s0 ev1 => ⟨ev1.1, fun i d q => let ⟨v, x, y⟩ := ev1.2 i d q; ⟨v, x, DRep.step0 s0 y⟩⟩
    refine h σ _ _ (ev.step s1) ?_ (t.step s1) ⟨fun σ1 e1 H1 μ1 hp ev1 st1 rp1 => ?_, fun v d H1 μ1 hp st1 rp1 dv => ?_, fun σ1 e1 H1 μ1 hp ev1 st1 rp1 => ?_, fun σ1 e1 H1 μ1 hp ev1 st1 rp1 => ?_⟩
    · exact rp.put s1 ⟨od, vs, upd_same, rr.step s1⟩
    · obtain ⟨x1, x2, x3, x4⟩ := back st1 rp1
      exact ⟨x1, q.nx _ _ _ _ hp (envB x3 ev1) x2 x4⟩
    · obtain ⟨x1, x2, x3, x4⟩ := back st1 rp1
      exact ⟨x1, q.rt _ _ _ _ hp x2 x4 (DRep.step0 x3 dv)⟩
    · obtain ⟨x1, x2, x3, x4⟩ := back st1 rp1
      exact ⟨x1, q.bk _ _ _ _ hp (envB x3 ev1) x2 x4⟩
    · obtain ⟨x1, x2, x3, x4⟩ := back st1 rp1
      exact ⟨x1, q.ct _ _ _ _ hp (envB x3 ev1) x2 x4⟩
/-- tuple(..) of a list, of a tuple -/
theorem d_tupOf {x : Dv} {xs : List Dv} (l : SqD μ x xs) (h : k (.tup xs) μ) : DCl K (fun us H Q => ∃ p ys, us = [V.ref p] ∧ ((SqL K H p ys ∧ ∀ l, H l = none → Q (.ref l) (upd H l (.tup ys))) ∨ (SqT K H p ys ∧ Q (.ref p) H))) [x] μ k := fun us H Q r d t => by
  cases d with
  | cons d0 d1 =>
    cases d1
    obtain ⟨a, vs, rfl, ha, ra⟩ := l.rep r d0
    exact ⟨a, vs, rfl, .inl ⟨ha, fun p hp => tl_new t h r hp (.tup upd_same (r.free hp) (ra.step (Step.new hp)))⟩⟩
theorem d_tupOfT {xs : List Dv} (h : k (.tup xs) μ) : DCl K (fun us H Q => ∃ p ys, us = [V.ref p] ∧ ((SqL K H p ys ∧ ∀ l, H l = none → Q (.ref l) (upd H l (.tup ys))) ∨ (SqT K H p ys ∧ Q (.ref p) H))) [.tup xs] μ k := fun us H Q r d t => by
  cases d with
  | cons d0 d1 =>
    cases d1
    obtain ⟨a, vs, rfl, ha, ra⟩ := tup_rep d0
    exact ⟨a, vs, rfl, .inr ⟨SqT.of ha, t _ _ _ _ h (Step.refl _ _) r d0⟩⟩
end
end DL

/-! ## signs, comprehensions that make things -/
namespace DL
open PySem PySem.Spec L2
section
variable {X : Cx} {W : WX} {KE : XD} {a b e : Expr} {n : En} {μ : M} {k : DK} {kb : Bool → M → Prop} {pos : Pos} {K : Kf} {scope : Scope} {ifs : List Expr} {elt : Expr} {i : Nat}
def rInSg : R2 := fun x y H Q => ∃ (c : Nat) (z : Str), x = .str ⟨#[c]⟩ ∧ y = .str z ∧ Q (.bl (decide (c ∈ z.cps.toList))) H
theorem je_inS (h : JE X W KE a n μ fun x μ1 => JE X W KE b n μ1 fun y μ2 => DOp X.K rInSg x y μ2 k) (hm : behindInMarks .In b = false := by rfl) : JE X W KE (.Compare a [.In] [b] pos) n μ k := je_cmp op_in_sign hm h
theorem d_inS {c : Nat} {z : Str} (h : k (.bl (decide (c ∈ z.cps.toList))) μ) : DOp K rInSg (.str ⟨#[c]⟩) (.str z) μ k := fun u v H Q r du dv t => by
  cases du; cases dv
  exact ⟨c, z, rfl, rfl, tl_pure t h r (.bl _)⟩
theorem LcTurn.mono {ko ko' : Option Dv → M → Prop} (h : LcTurn X scope ifs elt n μ ko) (m : ∀ o μ', ko o μ' → ko' o μ') : LcTurn X scope ifs elt n μ ko' := by
  intro s H C cl fp
  have h1 := h s H C cl fp
  match ifs, h1 with
  | [], h1 => exact ⟨fun z s2 H2 C2 cl2 fp2 => (h1.1 z s2 H2 C2 cl2 fp2).mono fun y μ3 q => m _ _ q, fun z => m _ _ (h1.2 z)⟩
  | [c], h1 => exact JT.mono h1 fun b μ2 q => ⟨fun z s2 H2 C2 cl2 fp2 => (q.1 z s2 H2 C2 cl2 fp2).mono fun y μ3 q => m _ _ q, fun z => m _ _ (q.2 z)⟩
theorem delM_ext {μ1 μ' : M} {p : Addr} (h : ∀ a o, μ1 a = some o → a ≠ p ∧ μ' a = some o) : ExtM μ1 (delM μ' p) := fun a o e => by
  obtain ⟨ne, q⟩ := h a o e
  rw [delM_ne ne]; exact q
/-- a comprehension each turn of which makes one new mutable thing -/
theorem lc_make {α : Type} (dv : α → Dv) (mk : α → MO) (xs : List α) {s : Src} {μ1 : M} (hs : s.items = xs.map dv) (hok : s.Ok μ1) (hl : xs.length < sizeLine)
    (h : ∀ (x : α) (μ' : M), x ∈ xs → ExtM μ1 μ' → LcTurn X scope ifs elt ((n.set i none).set i (some (dv x))) μ' fun o μ3 => ∃ a, o = some (.obj a) ∧ μ' a = none ∧ μ3 = updM μ' a (mk x))
    (hk : ∀ (as : List Addr) (μ' : M), ExtM μ1 μ' → as.length = xs.length → (∀ (j : Nat) (a : Addr) (x : α), as[j]? = some a → xs[j]? = some x → μ' a = some (mk x)) → as.Nodup → (∀ a ∈ as, μ1 a = none) → k (.lst (as.map Dv.obj)) μ') : LcAll X scope ifs elt i n k s μ1 := fun p hp => by
  refine ⟨fun j acc μ' => ∃ as : List Addr, acc = as.map Dv.obj ∧ μ' p = some (.lst acc) ∧ as.length = j ∧ j ≤ xs.length ∧ ExtM μ1 (delM μ' p) ∧ (∀ (m : Nat) (a : Addr) (x : α), as[m]? = some a → xs[m]? = some x → (delM μ' p) a = some (mk x)) ∧ as.Nodup ∧ (∀ a ∈ as, μ1 a = none), ?_, ?_, ?_, ?_⟩
  · refine ⟨[], rfl, updM_same, rfl, Nat.zero_le _, delM_ext fun a o e => ?_, fun m a x e => (by cases e), List.nodup_nil, fun a ha => (nomatch ha)⟩
    have ne : a ≠ p := fun z => by rw [z, hp] at e; cases e
    exact ⟨ne, by rw [updM_ne ne]; exact e⟩
  · rintro j acc μ' ⟨as, rfl, e, hj, hjl, hx, _⟩
    refine ⟨hok.ext fun a o q => ?_, e, by rw [List.length_map]; omega⟩
    have := hx a o q
    have ne : a ≠ p := fun z => by rw [z, delM_same] at this; cases this
    rw [delM_ne ne] at this
    exact this
  · rintro j x acc μ' hx ⟨as, rfl, e, hj, hjl, hx1, hm, nd, nw⟩
    rw [hs, List.getElem?_map] at hx
    cases hxx : xs[j]? with
    | none => rw [hxx] at hx; cases hx
    | some x0 =>
    rw [hxx] at hx
    cases hx
    have hjx : j < xs.length := (List.getElem?_eq_some_iff.mp hxx).1
    have ex : ExtM μ1 μ' := fun a o q => by
      have := hx1 a o q
      have ne : a ≠ p := fun z => by rw [z, delM_same] at this; cases this
      rw [delM_ne ne] at this
      exact this
    refine (h x0 μ' (List.mem_of_getElem? hxx) ex).mono fun o μ3 ⟨b, e1, e2, e3⟩ => ?_
    subst e1; subst e3
    have bp : b ≠ p := fun z => by rw [z, e] at e2; cases e2
    have key : delM (updM (updM μ' b (mk x0)) p (.lst (as.map Dv.obj ++ [.obj b]))) p = updM (delM μ' p) b (mk x0) := by
      funext q
      by_cases z : q = p
      · subst z
        rw [delM_same, updM_ne (Ne.symm bp), delM_same]
      · rw [delM_ne z, updM_ne z]
        by_cases y : q = b
        · subst y; rw [updM_same, updM_same]
        · rw [updM_ne y, updM_ne y, delM_ne z]
    have bn : b ∉ as := fun hb => by
      obtain ⟨m, hm1⟩ := List.getElem?_of_mem hb
      have hlt : m < xs.length := by have := (List.getElem?_eq_some_iff.mp hm1).1; omega
      have := hm m b _ hm1 (List.getElem?_eq_getElem hlt)
      rw [delM_ne bp, e2] at this
      cases this
    refine ⟨by rw [updM_ne (Ne.symm bp)]; exact e, as ++ [b], by rw [List.map_append]; rfl, updM_same, by rw [List.length_append, hj]; rfl, hjx, ?_, ?_, ?_, ?_⟩
    · rw [key]
      intro a o q
      have h1 := hx1 a o q
      have nb : a ≠ b := fun z => by rw [z, delM_ne bp, e2] at h1; cases h1
      rw [updM_ne nb]; exact h1
    · rw [key]
      intro m a x ha hx
      by_cases z : m < as.length
      · rw [List.getElem?_append_left z] at ha
        have nb : a ≠ b := fun q => bn (q ▸ List.mem_of_getElem? ha)
        rw [updM_ne nb]; exact hm m a x ha hx
      · rw [List.getElem?_append_right (by omega)] at ha
        have hm0 : m - as.length = 0 := by
          cases q : m - as.length with
          | zero => rfl
          | succ r => rw [q] at ha; cases ha
        rw [hm0] at ha
        cases ha
        have : m = j := by omega
        subst this
        rw [hxx] at hx
        cases hx
        exact updM_same
    · rw [List.nodup_append]
      refine ⟨nd, List.nodup_cons.mpr ⟨fun z => (nomatch z), List.nodup_nil⟩, fun x hx y hy q => ?_⟩
      cases List.mem_singleton.mp hy
      exact bn (q ▸ hx)
    · intro a ha
      rcases List.mem_append.mp ha with ha | ha
      · exact nw a ha
      · cases List.mem_singleton.mp ha
        cases q : μ1 b with
        | none => rfl
        | some o => rw [ex b o q] at e2; cases e2
  · rintro acc μ' ⟨as, rfl, e, hj, hjl, hx1, hm, nd, nw⟩
    rw [hs, List.length_map] at hj
    exact .inl (hk as _ hx1 hj hm nd nw)
end
end DL
namespace DL
open PySem PySem.Spec L2
section
variable {X : Cx} {W : WX} {KE : XD} {tg iter : Expr} {n : En} {μ : M} {ks : Src → M → Prop}
/-- a list or a tuple, walked -/
theorem ji_LT {d0 : Dv} {xs : List Dv} (hd : d0 = .lst xs ∨ d0 = .tup xs) (h : JE X W KE iter n μ fun d μ1 => d = d0 ∧ ∀ s : Src, s.items = xs → (∀ μ', s.Ok μ') → ks s μ1) : JI X W KE tg iter n μ ks := by
  rcases hd with rfl | rfl
  · exact ji_seq (h.mono fun d μ1 ⟨e, q⟩ => by subst e; exact ⟨xs, .lst _, q (.seq _ xs) rfl fun _ => .lst _⟩)
  · exact ji_tup (h.mono fun d μ1 ⟨e, q⟩ => by subst e; exact ⟨xs, rfl, q (.tup xs) rfl fun _ => trivial⟩)
end
end DL

/-! ## defs with defaults -/
namespace DL
open PySem PySem.Spec L2
theorem fn_dataD {Pg : Program} {w : World} {K : Kf} {mg : Str → Option Value} {base : Heap} {x qual : Str} {st : Stmt} {f : Addr} {fd : FuncData} {dvs : List V} {kws : List (Str × V)} {N ps : List Str} {k : Nat} {S : DSp} (F : FunD K x qual (defArgs st) (defBody st) (defScope st) dvs kws f fd) (Sc : FnScope N ps (defScope st)) (len : ∀ ds μ kd ke, S ds μ kd ke → ds.length = ps.length)
    (hbody : ∀ (cdv : Value) (A : Around) (outer : List PySem.Env) (s : Shared) (H : Hp) (E : XK),
      let X := cxOf (L2.CX Pg w) Pg w K mg base N qual (defScope st) f cdv A outer s H E
      Cok k X (fun cls d _ H => E cls d H) → PassesOwn (model X.prog X.w) X.A X.env X.xe → ∀ (ds : List Dv) (μ : M) (kd : DK) (ke : XF), S ds μ kd ke →
        JB X (fun cls d _ H => E cls d H) (fun cls fs _ μ' => ke cls fs μ') (defBody st) (ds.map some ++ List.replicate (N.length - ds.length) none) μ { nx := fun _ μ' => kd .non μ', rt := kd }) : FnOk Pg w K mg base (L2.CX Pg w) (k + 1) f fd ps (toSp K S) := by
  refine F.ok (CX := L2.CX Pg w) Sc (fun vs H Q E h => ?_) (fun cdv A outer s H vs Q E hr h => ?_)
  · obtain ⟨ds, μ, kd, ke, dr, rp, sp, _⟩ := h
    rw [dr.length]
    exact len _ _ _ _ sp
  · obtain ⟨ds, μ, kd, ke, dr, rp, sp, tl, tx⟩ := h
    refine ⟨_, pbC, hbody cdv A outer s H E ⟨hr, rfl, takes_of rfl rfl rfl rfl, Sc.nd⟩ (passes_of rfl) ds μ kd ke sp _ H _ ?_ rp (fun cls fs d σ' e' H' μ' h1 _ s1 r1 x1 => tx cls fs d H' μ' h1 s1 r1 x1) ⟨fun σ' e' H' μ' h1 _ s1 r1 => tl .non .non H' μ' h1 s1 r1 .non, tl, fun _ _ _ _ h => False.elim h, fun _ _ _ _ h => False.elim h⟩⟩
    unfold L2.start
    rw [dr.length]
    exact Env.start _ dr
end DL

/-! ## methods of built-in types, sorted(dict), d.get, enumerate, lists that stay mutable -/
namespace DL
open PySem PySem.Spec L2
/-- a method of a built-in type on data -/
def DMd (K : Kf) (r : V → List V → Hp → VK → Prop) (x : Dv) (ds : List Dv) (μ : M) (k : DK) : Prop := ∀ u us H Q, Rep K μ H → DRep K μ H u x → DReps K μ H us ds → Tl K μ H k Q → r u us H Q
theorem ExtM.trans {μ μ1 μ2 : M} (h : ExtM μ μ1) (g : ExtM μ1 μ2) : ExtM μ μ2 := fun a o e => g a o (h a o e)
def DTy (K : Kf) (T : String) (x : Dv) (μ : M) : Prop := ∀ u H, Rep K μ H → DRep K μ H u x → tyV K T u H
theorem SqD.mono {μ μ' : M} {d : Dv} {xs : List Dv} (l : SqD μ d xs) (e : ∀ a o, μ a = some o → μ' a = some o) : SqD μ' d xs := by
  cases l with
  | lst => exact .lst _
  | fro => exact .fro _
  | obj h => exact .obj (e _ _ h)
section
variable {X : Cx} {W : WX} {KE : XD} {e f o : Expr} {es : List Expr} {n : En} {μ : M} {k : DK} {pos apos cpos : Pos} {K : Kf} {name : Str} {T id : String} {r : V → List V → Hp → VK → Prop} {kl : Nat}
theorem DTy.lst {x : Dv} {xs : List Dv} (l : SqD μ x xs) : DTy K "list" x μ := fun u H rp d => by
  obtain ⟨a, vs, rfl, ha, _⟩ := l.rep rp d
  exact .inl ⟨rfl, _, ha⟩
theorem DTy.str {z : Str} : DTy K "str" (.str z) μ := fun u H rp d => by
  cases d
  rfl
theorem je_bm (pa : PlainAttrs T) (slot : Slot T name id) (hty : typeOf (.builtin id) = pure (.type "method_descriptor")) (hm : MtR X id r)
    (h : JE X W KE o n μ fun x μ1 => DTy X.K T x μ1 ∧ JA X W KE (e :: es) n μ1 fun ds μ2 => DMd X.K r x ds μ2 k)
    (hbase : attributeBase o name X.env (eval o X.env) = eval o X.env := by rfl)
    (hfew : ((backTo cpos (starEach (e :: es) X.env)).all (fun x => !x.1) && (backToKw cpos (keywordEach [] X.env)).all (fun x => x.1.isSome)
      && decide ((e :: es).length + ([] : List Keyword).length + (if ([] : List Keyword).isEmpty then 0 else 1) < 30)) = true := by rfl)
    (hline : (apos.endLine == cpos.line) = true := by rfl) (hs : starEach (e :: es) X.env = (false, eval e X.env) :: starEach es X.env := by rfl) (hplain : (backTo cpos (starEach es X.env)).any (·.1) = false := by rfl) :
    JE X W KE (.Call (.Attribute o name apos) (e :: es) [] cpos) n μ k :=
  je_of (pe_bm pa slot hty hm peC paC hbase hfew hline hs hplain) fun σ H Q ev rp t q => by
    refine h σ H _ ev rp t fun u x H1 μ1 h1 s1 r1 d1 => ?_
    obtain ⟨ty, h1⟩ := h1
    refine ⟨ty u H1 r1 d1, ?_⟩
    refine h1 σ H1 _ (ev.step s1) r1 (t.step s1) fun us ds H2 μ2 h2 s2 r2 d2 => ?_
    exact h2 u us H2 Q r2 (d1.step s2) d2 (q.step (s1.trans s2))
theorem je_bm0 (pa : PlainAttrs T) (slot : Slot T name id) (hty : typeOf (.builtin id) = pure (.type "method_descriptor")) (hm : MtR X id r)
    (h : JE X W KE o n μ fun x μ1 => DTy X.K T x μ1 ∧ DMd X.K r x [] μ1 k)
    (hbase : attributeBase o name X.env (eval o X.env) = eval o X.env := by rfl) (hline : (apos.endLine == cpos.line) = true := by rfl) :
    JE X W KE (.Call (.Attribute o name apos) [] [] cpos) n μ k :=
  je_of (pe_bm0 pa slot hty hm peC hbase hline) fun σ H Q ev rp t q => by
    refine h σ H _ ev rp t fun u x H1 μ1 h1 s1 r1 d1 => ?_
    obtain ⟨ty, h1⟩ := h1
    exact ⟨ty u H1 r1 d1, h1 u [] H1 Q r1 d1 .nil (q.step s1)⟩
/-- xs.reverse() of a mutable list -/
theorem d_reverse {a : Addr} {xs : List Dv} (ha : μ a = some (.lst xs)) (h : k .non (updM μ a (.lst xs.reverse))) : DMd K rReverse (.obj a) [] μ k := fun u us H Q rp d ds t => by
  cases d; cases ds
  obtain ⟨vs, e, rr⟩ := rp _ _ ha
  have s3 := Step.mut (H := H) (o := .lst vs.reverse) (u := .lst xs.reverse) ha
  exact ⟨a, vs, rfl, rfl, e, t _ _ _ _ h s3 (rp.put s3 ⟨_, upd_same, rr.reverse.step s3⟩) .non⟩
def rInsert : V → List V → Hp → VK → Prop := fun x vs H Q => ∃ (l : Addr) (xs : List V) (i : Int) (y : V), x = .ref l ∧ vs = [.int i, y] ∧ H l = some (.lst xs) ∧ xs.length < sizeLine ∧ 0 ≤ i ∧ i < 2 ^ 63 ∧
    Q .non (upd H l (.lst (xs.take i.toNat ++ [y] ++ xs.drop i.toNat)))
theorem d_insert {a : Addr} {xs : List Dv} {i : Int} {y : Dv} (ha : μ a = some (.lst xs)) (hz : xs.length < sizeLine) (h0 : 0 ≤ i) (h1 : i < 2 ^ 63) (h : k .non (updM μ a (.lst (xs.take i.toNat ++ [y] ++ xs.drop i.toNat)))) : DMd K rInsert (.obj a) [.int i, y] μ k := fun u us H Q rp d ds t => by
  cases d
  cases ds with
  | cons d1 ds =>
    cases ds with
    | cons d2 ds =>
      cases ds; cases d1
      obtain ⟨vs, e, rr⟩ := rp _ _ ha
      rename_i w0
      have s3 := Step.mut (H := H) (o := .lst (vs.take i.toNat ++ [w0] ++ vs.drop i.toNat)) (u := .lst (xs.take i.toNat ++ [y] ++ xs.drop i.toNat)) ha
      exact ⟨a, vs, i, _, rfl, rfl, e, by rw [rr.length]; exact hz, h0, h1, t _ _ _ _ h s3 (rp.put s3 ⟨_, upd_same, (((rr.take _).append (.one d2)).append (rr.drop _)).step s3⟩) .non⟩
/-- d.get(k, x) -/
theorem je_dget2 (c : Cok kl X W) (h : JE X W KE o n μ fun d μ1 => ∃ a, d = .obj a ∧ (∃ kvs, DicD μ1 a kvs) ∧ JE X W KE e n μ1 fun y μ2 => JE X W KE f n μ2 fun z μ3 => ∃ kvs key, DicD μ3 a kvs ∧ y = keyD key ∧ k ((valD kvs key).getD z) μ3)
    (m : M2 X o "get" apos e f cpos := by exact ⟨rfl, rfl, rfl, rfl⟩) : JE X W KE (.Call (.Attribute o "get" apos) [e, f] [] cpos) n μ k :=
  je_of (pe_dget2 (by have := c.room.un; omega) peC peC peC m) fun σ H Q ev rp t q => by
    refine h σ H _ ev rp t fun u d H1 μ1 h1 s1 r1 d1 => ?_
    obtain ⟨a, rfl, ⟨kv0, hd0⟩, h1⟩ := h1
    cases d1
    obtain ⟨vs0, e0, _⟩ := hd0.rep r1
    refine ⟨a, rfl, .inl ⟨vs0, e0⟩, ?_⟩
    refine h1 σ H1 _ (ev.step s1) r1 (t.step s1) fun w y H2 μ2 h2 s2 r2 d2 => ?_
    have s12 := s1.trans s2
    refine h2 σ H2 _ (ev.step s12) r2 (t.step s12) fun z zd H3 μ3 h3 s3 r3 d3 => ?_
    obtain ⟨kvs, key, hd, rfl, hk⟩ := h3
    obtain rfl := key_rep (d2.step s3)
    obtain ⟨vs, e1, rr⟩ := hd.rep r3
    refine ⟨_, .inl ⟨vs, key, e1, rfl, rfl⟩, ?_⟩
    cases hv : valD kvs key with
    | none => rw [rr.valN hv]; rw [hv] at hk; exact q _ _ _ _ hk (s12.trans s3) r3 d3
    | some v =>
      obtain ⟨x, ex, dx⟩ := rr.valS hv
      rw [ex]; rw [hv] at hk
      exact q _ _ _ _ hk (s12.trans s3) r3 dx
def rSortedDD : List V → Hp → VK → Prop := fun xs H Q => ∃ (a : Addr) (kvs : List (Key × V)) (ks : List Str), xs = [.ref a] ∧ Rd H a (.dK kvs) ∧ kvs.map (·.1) = ks.map Sum.inr ∧ ks.length < 64 ∧
    ∀ ys p, ys.Perm ks → PyProof.Rows.sortedS ys = true → H p = none → Q (.ref p) (upd H p (.lst (ys.map V.str)))
/-- sorted(d), the list mutable -/
theorem d_sortedDM {a : Addr} {kvs : List (Key × Dv)} {ks : List Str} (hd : DicD μ a kvs) (hk : kvs.map (·.1) = ks.map Sum.inr) (h64 : ks.length < 64) (h : ∀ ys p, ys.Perm ks → PyProof.Rows.sortedS ys = true → μ p = none → k (.obj p) (updM μ p (.lst (ys.map Dv.str)))) : DCl K rSortedDD [.obj a] μ k := fun us H Q rp d t => by
  cases d with
  | cons d0 d1 =>
    cases d1; cases d0
    obtain ⟨vs, e1, rr⟩ := hd.rep rp
    refine ⟨a, vs, ks, rfl, e1, rr.keys.trans hk, h64, fun ys p h1 h2 hp => ?_⟩
    have s2 : Step μ H (updM μ p (.lst (ys.map Dv.str))) (upd H p (.lst (ys.map V.str))) := Step.newM hp
    exact t _ _ _ _ (h ys p h1 h2 (rp.free hp)) s2 (rp.put s2 ⟨_, upd_same, DReps.ofStrs ys⟩) (.obj p)
theorem d_sortedD {a : Addr} {kvs : List (Key × Dv)} {ks : List Str} (hd : DicD μ a kvs) (hk : kvs.map (·.1) = ks.map Sum.inr) (h64 : ks.length < 64) (h : ∀ ys, ys.Perm ks → PyProof.Rows.sortedS ys = true → k (.lst (ys.map Dv.str)) μ) : DCl K rSortedDD [.obj a] μ k := fun us H Q rp d t => by
  cases d with
  | cons d0 d1 =>
    cases d1; cases d0
    obtain ⟨vs, e1, rr⟩ := hd.rep rp
    refine ⟨a, vs, ks, rfl, e1, rr.keys.trans hk, h64, fun ys p h1 h2 hp => ?_⟩
    exact tl_new t (h ys h1 h2) rp hp (.lst upd_same (rp.free hp) (DReps.ofStrs ys))
end
/-! sorted texts are one list -/
theorem ltC_irr : ∀ a : List Nat, ltCps a a = false
  | [] => rfl
  | a :: r => by show (decide (a < a) || (a == a && ltCps r r)) = false; rw [ltC_irr r, decide_eq_false (Nat.lt_irrefl a)]; simp
theorem ltC_tri : ∀ {a b : List Nat}, ltCps a b = false → ltCps b a = false → a = b
  | [], [], _, _ => rfl
  | [], _ :: _, h, _ => by cases h
  | _ :: _, [], _, h => by cases h
  | a :: r, b :: t, h, h' => by
    replace h : (decide (a < b) || (a == b && ltCps r t)) = false := h
    replace h' : (decide (b < a) || (b == a && ltCps t r)) = false := h'
    simp only [Bool.or_eq_false_iff, decide_eq_false_iff_not, Bool.and_eq_false_iff, beq_eq_false_iff_ne] at h h'
    have e : a = b := by omega
    subst e
    rw [ltC_tri (h.2.resolve_left (fun z => z rfl)) (h'.2.resolve_left (fun z => z rfl))]
theorem ltC_trans : ∀ {a b c : List Nat}, ltCps b a = false → ltCps c b = false → ltCps c a = false
  | [], _, [], _, _ => rfl
  | _ :: _, [], _, h, _ => by cases h
  | _, _ :: _, [], _, h => by cases h
  | [], _, _ :: _, _, _ => rfl
  | a :: r, b :: s, c :: t, h, h' => by
    replace h : (decide (b < a) || (b == a && ltCps s r)) = false := h
    replace h' : (decide (c < b) || (c == b && ltCps t s)) = false := h'
    show (decide (c < a) || (c == a && ltCps t r)) = false
    simp only [Bool.or_eq_false_iff, decide_eq_false_iff_not, Bool.and_eq_false_iff, beq_eq_false_iff_ne] at h h' ⊢
    refine ⟨by omega, ?_⟩
    by_cases e : c = a
    · right
      have e1 : b = a := by omega
      have e2 : c = b := by omega
      exact ltC_trans (h.2.resolve_left (fun z => z e1)) (h'.2.resolve_left (fun z => z e2))
    · exact .inl e
theorem rising_pw : ∀ {l : List Str} {p : Str}, PyProof.Rows.risingS p l = true → (p :: l).Pairwise fun a b => ltCps b.cps.toList a.cps.toList = false
  | [], p, _ => List.pairwise_singleton _ _
  | x :: r, p, h => by
    replace h : (!ltCps x.cps.toList p.cps.toList && PyProof.Rows.risingS x r) = true := h
    rw [Bool.and_eq_true] at h
    have ih := rising_pw h.2
    have h1 : ltCps x.cps.toList p.cps.toList = false := by simpa using h.1
    refine List.pairwise_cons.mpr ⟨fun y hy => ?_, ih⟩
    rcases List.mem_cons.mp hy with rfl | hy
    · exact h1
    · exact ltC_trans h1 ((List.pairwise_cons.mp ih).1 y hy)
theorem sortedS_pw {l : List Str} (h : PyProof.Rows.sortedS l = true) : l.Pairwise fun a b => ltCps b.cps.toList a.cps.toList = false := by
  cases l with
  | nil => exact .nil
  | cons x r => exact rising_pw h
theorem str_ext {a b : Str} (h : a.cps.toList = b.cps.toList) : a = b := by
  obtain ⟨⟨x⟩⟩ := a
  obtain ⟨⟨y⟩⟩ := b
  cases (show x = y from h)
  rfl
theorem sortedS_uniq {l l' : List Str} (p : l.Perm l') (h : PyProof.Rows.sortedS l = true) (h' : PyProof.Rows.sortedS l' = true) : l = l' :=
  List.Perm.eq_of_pairwise (le := fun a b : Str => ltCps b.cps.toList a.cps.toList = false) (fun a b _ _ h1 h2 => str_ext (ltC_tri h2 h1)) (sortedS_pw h) (sortedS_pw h') p
/-! comprehensions that stay mutable -/
section
variable {X : Cx} {scope : Scope} {ifs : List Expr} {elt : Expr} {i : Nat} {n : En} {k : DK}
theorem lc_mapM {α : Type} (dv : α → Dv) (xs : List α) (g : α → Option Dv) {s : Src} {μ1 : M} (hs : s.items = xs.map dv) (hok : s.Ok μ1) (hl : xs.length < sizeLine)
    (h : ∀ (j : Nat) (x : α) (μ' : M), xs[j]? = some x → ExtM μ1 μ' → LcTurn X scope ifs elt ((n.set i none).set i (some (dv x))) μ' fun o μ3 => o = g x ∧ μ3 = μ') (hk : ∀ a, μ1 a = none → k (.obj a) (updM μ1 a (.lst (xs.filterMap g)))) : LcAll X scope ifs elt i n k s μ1 := fun a ha => by
  obtain ⟨Iv, h0, hok', ht, hend⟩ := lc_map (k := fun d μ' => d = .lst (xs.filterMap g) ∧ μ' = μ1) dv xs g hs hok hl h ⟨rfl, rfl⟩ a ha
  refine ⟨Iv, h0, hok', ht, fun acc μ' iv => ?_⟩
  rcases hend acc μ' iv with ⟨e1, e2⟩ | ⟨_, e1, _⟩
  · cases e1
    have hm := (hok' _ _ _ iv).2.1
    refine .inr ⟨hm, ?_⟩
    rw [show μ' = updM μ1 a (.lst (xs.filterMap g)) from ?_]
    · exact hk a ha
    · funext b
      by_cases z : b = a
      · rw [z, updM_same, hm]
      · rw [updM_ne z, ← e2, delM_ne z]
  · cases e1
end
end DL
namespace DL
open PySem PySem.Spec L2
/-! a list, a tuple, a list that may change -/
inductive LTD (μ : M) : Dv → List Dv → Prop where
  | lst (xs : List Dv) : LTD μ (.lst xs) xs
  | tup (xs : List Dv) : LTD μ (.tup xs) xs
  | obj {a : Addr} {xs : List Dv} (h : μ a = some (.lst xs)) : LTD μ (.obj a) xs
theorem LTD.ext {μ μ' : M} {d : Dv} {xs : List Dv} (l : LTD μ d xs) (e : ExtM μ μ') : LTD μ' d xs := by
  cases l with
  | lst => exact .lst _
  | tup => exact .tup _
  | obj h => exact .obj (e _ _ h)
section
variable {X : Cx} {W : WX} {KE : XD} {tg iter : Expr} {n : En} {μ : M} {ks : Src → M → Prop} {k : DK} {K : Kf}
theorem ji_LTD {d0 : Dv} {xs : List Dv} (hd : LTD μ d0 xs) (h : JE X W KE iter n μ fun d μ1 => d = d0 ∧ μ1 = μ ∧ ∀ s : Src, s.items = xs → (∀ μ', ExtM μ μ' → s.Ok μ') → ks s μ1) : JI X W KE tg iter n μ ks := by
  cases hd with
  | lst => exact ji_seq (h.mono fun d μ1 ⟨e, _, q⟩ => by subst e; exact ⟨xs, .lst _, q (.seq _ xs) rfl fun _ _ => .lst _⟩)
  | tup => exact ji_tup (h.mono fun d μ1 ⟨e, _, q⟩ => by subst e; exact ⟨xs, rfl, q (.tup xs) rfl fun _ _ => trivial⟩)
  | obj ha => exact ji_seq (h.mono fun d μ1 ⟨e, e2, q⟩ => by subst e; subst e2; exact ⟨xs, .obj ha, q (.seq _ xs) rfl fun _ x => .obj (x _ _ ha)⟩)
theorem d_isLTD {d : Dv} {xs : List Dv} (hd : LTD μ d xs) (h : k (.bl true) μ) : DCl K (rIsiA K) [d, .tup [.ty "list", .ty "tuple"]] μ k := by
  cases hd with
  | lst => exact d_isiT (.lst _) (.cons (.ty _) (.cons (.ty _) .nil)) (kitAny_cons (kit_ty (r := true) (by decide +kernel)) (fun z => nomatch z) fun _ => rfl) h
  | tup => exact d_isiT (.tup _) (.cons (.ty _) (.cons (.ty _) .nil)) (kitAny_cons (kit_ty (r := false) (by decide +kernel)) (fun _ => kitAny_cons (kit_ty (r := true) (by decide +kernel)) (fun z => nomatch z) fun _ => rfl) fun z => nomatch z) h
  | obj ha => exact d_isiT (.lstM ha) (.cons (.ty _) (.cons (.ty _) .nil)) (kitAny_cons (kit_ty (r := true) (by decide +kernel)) (fun z => nomatch z) fun _ => rfl) h
theorem d_lenLTD {d : Dv} {xs : List Dv} (hd : LTD μ d xs) (h : k (.int xs.length) μ) : DCl K (rLenA K) [d] μ k := by
  cases hd with
  | lst => exact d_lenL (.lst _) h
  | tup => exact d_lenT h
  | obj ha => exact d_lenL (.obj ha) h
theorem d_tupLTD {d : Dv} {xs : List Dv} (hd : LTD μ d xs) (h : k (.tup xs) μ) : DCl K (fun us H Q => ∃ p ys, us = [V.ref p] ∧ ((SqL K H p ys ∧ ∀ l, H l = none → Q (.ref l) (upd H l (.tup ys))) ∨ (SqT K H p ys ∧ Q (.ref p) H))) [d] μ k := by
  cases hd with
  | lst => exact d_tupOf (.lst _) h
  | tup => exact d_tupOfT h
  | obj ha => exact d_tupOf (.obj ha) h
theorem d_listLTD {d : Dv} {xs : List Dv} (hd : LTD μ d xs) (h : k (.lst xs) μ) : DCl K (fun ys H Q => ∃ p zs, ys = [V.ref p] ∧ (SqL K H p zs ∨ SqT K H p zs) ∧ ∀ l, H l = none → Q (.ref l) (upd H l (.lst zs))) [d] μ k := by
  cases hd with
  | lst => exact d_listOf (.lst _) h
  | tup => exact d_listOfT h
  | obj ha => exact d_listOf (.obj ha) h
end
end DL

/-! ## list.count, list.index, xs[i] = v, for i, x in enumerate(xs) -/
namespace DL
open PySem PySem.Spec L2
/-- l.count(x) -/
def rCountD (K : Kf) : V → List V → Hp → VK → Prop := fun x xs H Q => ∃ (a : Addr) (y : V) (d : PyData) (ds : List PyData), x = V.ref a ∧ xs = [y] ∧ Dp K H (V.ref a) (.list ds) ∧ Dp K H y d ∧
  SeqAt.shaped (.list ds) = true ∧ SeqAt.shaped d = true ∧ Q (.int (ds.countP fun z => PyData.eqv z d : Nat)) H
theorem mt_countD {X : Cx} (hu : X.A.units + 65 < cLine) : MtR X "list.count" (rCountD X.K) := by
  intro pins s σ H x xs v us Q I rx rxs h
  obtain ⟨a, y, d, ds, rfl, rfl, hl, hy, sl, sd, q⟩ := h
  cases rx
  cases rxs with
  | cons ry rt =>
    rename_i uy ut
    cases rt
    obtain ⟨bs, r1⟩ := Dp.reads I d y uy hy ry
    have hxs : PyData.canLayAll0 ds = true := SeqAt.canLay_of_shaped sl
    have hroom : X.A.units + 1 + min (PyData.depthAll ds) d.depth < cLine := PyProof.Rows.room_in_shaped sd hu
    cases hl with
    | lst hs ha =>
      obtain ⟨its, rv, ⟨⟨cls, dd, data, sls⟩, n, ho, hc, hdn, hdt⟩, hlen⟩ := I.list hs
      simp only at hc hdt
      subst hc hdt
      obtain ⟨as, h4⟩ := Dp.readsAll I ds _ its ha rv
      have hmap : its.map (SeqAt.readOf s.heap) = ds := SeqAt.readsAll_map ds its as hxs h4
      refine call_meets PySem.F.slot_list_count ⟨_, ho, rfl⟩ PySem.F.entry_list_count (PySem.F.args_list_count_2 _ _)
        (SeqAt.list_countAt a its.toArray n dd sls uy (fun u => PyData.eqv (SeqAt.readOf s.heap u) d)) ⟨ho, SeqAt.items_eqAt (vs := its.toArray) h4 r1 hxs (SeqAt.canLay_of_shaped sd) hroom, ?_⟩
      have ec : its.toArray.toList.countP (fun u => PyData.eqv (SeqAt.readOf s.heap u) d) = ds.countP fun z => PyData.eqv z d := by
        rw [← hmap, List.countP_map]; rfl
      refine ⟨.int (ds.countP fun z => PyData.eqv z d : Nat), H, I.tok _, ⟨s.toks, ?_⟩, q⟩
      show Value.int ((its.toArray.toList.countP (fun u => PyData.eqv (SeqAt.readOf s.heap u) d) : Nat) : Int) s.toks = Value.int ((ds.countP fun z => PyData.eqv z d : Nat) : Int) s.toks
      rw [ec]
def Enc.bl : Enc Bool := ⟨Dv.bl, PyData.bool, 0, fun _ => by unfold DL.toPy; rfl, fun _ => by unfold PyData.canLay0; rfl, fun _ => by unfold PyData.depth; exact Nat.le_refl _, fun x y => by
  unfold PyData.eqv
  cases x <;> cases y <;> rfl⟩
theorem countP_E {α : Type} [DecidableEq α] (E : Enc α) (x : α) : ∀ xs : List α, (xs.map E.py).countP (fun z => PyData.eqv z (E.py x)) = xs.count x
  | [] => rfl
  | y :: ys => by
    rw [List.map_cons, List.countP_cons, List.count_cons, countP_E E x ys, E.eqv]
    by_cases h : y = x
    · subst h; simp
    · simp [h]
section
variable {K : Kf} {μ : M} {k : DK}
theorem d_countE {α : Type} [DecidableEq α] (E : Enc α) (hn : E.n + 1 ≤ 64) {d e : Dv} {x : α} {xs : List α} (l : SqD μ d (xs.map E.dv)) (he : e = E.dv x := by rfl) (h : k (.int (xs.count x : Nat)) μ) : DMd K (rCountD K) d [e] μ k := fun u us H Q r du ds t => by
  subst he
  cases ds with
  | cons d1 ds =>
    cases ds
    obtain ⟨a, vs, rfl, _, _⟩ := l.rep r du
    refine ⟨a, _, E.py x, xs.map E.py, rfl, rfl, l.dp r du (toPys_map E xs), d1.dp (E.toPy x), E.list.shaped hn xs, E.shaped (by omega) x, ?_⟩
    rw [countP_E E x xs]
    exact tl_pure t h r (.int _)
theorem d_indexE {α : Type} [DecidableEq α] (E : Enc α) (hn : E.n + 1 ≤ 64) {d e : Dv} {x : α} {xs : List α} {j : Nat} (l : SqD μ d (xs.map E.dv)) (hj : xs[j]? = some x) (hm : ∀ (m : Nat) (z : α), m < j → xs[m]? = some z → z ≠ x) (he : e = E.dv x := by rfl) (h : k (.int (j : Nat)) μ) : DMd K (rIndexD K) d [e] μ k := fun u us H Q r du ds t => by
  subst he
  cases ds with
  | cons d1 ds =>
    cases ds
    obtain ⟨a, vs, rfl, _, _⟩ := l.rep r du
    refine ⟨a, _, E.py x, xs.map E.py, j, E.py x, rfl, rfl, l.dp r du (toPys_map E xs), d1.dp (E.toPy x), E.list.shaped hn xs, E.shaped (by omega) x, ?_, ?_, ?_, tl_pure t h r (.int _)⟩
    · rw [List.getElem?_map, hj]; rfl
    · rw [E.eqv]; simp
    · intro m z hm1 hz
      rw [List.getElem?_map] at hz
      cases e : xs[m]? with
      | none => rw [e] at hz; cases hz
      | some w =>
        rw [e] at hz
        cases hz
        rw [E.eqv]
        exact decide_eq_false (hm m w hm1 e)
end
section
variable {X : Cx} {W : WX} {KE : XD} {e o i : Expr} {A : List Stmt} {n : En} {μ : M} {k : DK} {P : Ed} {pos pos' p p1 p2 p3 : Pos} {x1 x2 : Str} {kl : Nat}
/-- o[i] = e, o a list that may change -/
theorem js_lput (h : JE X W KE e n μ fun y μ1 => JE X W KE o n μ1 fun d μ2 => JE X W KE i n μ2 fun z μ3 => ∃ a xs kk j, d = .obj a ∧ μ3 a = some (.lst xs) ∧ z = .int kk ∧ L2.ixN xs.length kk = some j ∧ P.nx n (updM μ3 a (.lst (xs.set j y))))
    (hg : PG X (.Subscript o i pos') (gSub (cE X o) (cE X i) rSetL) := by exact pg_sub peC peC set_list)
    (hs : swapsWithSole [.Subscript o i pos'] e pos.line X.env = pure false := by rfl) (hw : swappedStores [.Subscript o i pos'] e X.env = pure none := by rfl)
    (h1 : (assignEach [.Subscript o i pos'] X.env).map (·.2) = [assign (.Subscript o i pos') X.env] := by rfl) : JS X W KE (.Assign [.Subscript o i pos'] e pos) n μ P :=
  js_of (ps_asg peC hg hs hw h1) fun σ H D ev rp t q => by
    refine h σ H _ ev rp t fun u y H1 μ1 h1 s1 r1 d1 => ?_
    refine h1 σ H1 _ (ev.step s1) r1 (t.step s1) fun w d H2 μ2 h2 s2 r2 d2 => ?_
    refine h2 σ H2 _ (ev.step (s1.trans s2)) r2 (t.step (s1.trans s2)) fun v z H3 μ3 h3 s3 r3 d3 => ?_
    obtain ⟨a, xs, kk, j, rfl, ha, rfl, hj, hk⟩ := h3
    cases d2; cases d3
    obtain ⟨vs, e1, rr⟩ := r3 _ _ ha
    have s4 := Step.mut (H := H3) (o := .lst (vs.set j u)) (u := .lst (xs.set j y)) ha
    have sA := ((s1.trans s2).trans s3).trans s4
    refine ⟨a, vs, kk, j, rfl, rfl, e1, by rw [rr.length]; exact hj, q.nx _ _ _ _ hk (ev.step sA) sA (r3.put s4 ⟨_, upd_same, ?_⟩)⟩
    have dy := (d1.step (s2.trans s3)).step s4
    have : ∀ {vs : List V} {xs : List Dv} {j : Nat}, DReps X.K (updM μ3 a (.lst (xs))) H3 vs xs → True := fun _ => trivial
    have set : ∀ {μ : M} {H : Hp} {vs : List V} {xs : List Dv} {u : V} {y : Dv} (j : Nat), DReps X.K μ H vs xs → DRep X.K μ H u y → DReps X.K μ H (vs.set j u) (xs.set j y) := by
      intro μ H vs
      induction vs with
      | nil => intro xs u y j r d; cases r; exact .nil
      | cons v vs ih =>
        intro xs u y j r d
        cases r with
        | cons h t =>
          cases j with
          | zero => exact .cons d t
          | succ j => exact .cons h (ih j t d)
    exact set j (rr.step s4) dy
/-- for i, x in enumerate(xs) -/
theorem js_forE (i1 i2 : Nat) (c : Cok kl X W) (hi1 : X.N[i1]? = some x1) (hi2 : X.N[i2]? = some x2) (ow : PassesOwn (model X.prog X.w) X.A X.env X.xe) (hm : X.mg "enumerate" = none)
    (h : JE X W KE e n μ fun d μ1 => ∃ xs, SqD μ1 d xs ∧ ∃ Iv : Nat → En → M → Prop, Mid (Iv 0) n μ1 ∧ (∀ j n' μ', Iv j n' μ' → SqD μ' d xs) ∧
      (∀ j x e μ', xs[j]? = some x → Iv j e μ' → JB X W KE A ((e.set i1 (some (.int (j : Nat)))).set i2 (some x)) μ' { nx := Mid (Iv (j + 1)), ct := Mid (Iv (j + 1)), bk := P.nx, rt := P.rt }) ∧ ∀ e μ', Iv xs.length e μ' → ∀ n', LeE n' e → P.nx n' μ')
    (hl1 : Loc X.env.scope x1 := by first | exact Or.inl rfl | exact Or.inr rfl) (hl2 : Loc X.env.scope x2 := by first | exact Or.inl rfl | exact Or.inr rfl)
    (hf1 : X.fn x1 = true ∨ X.env.scope.names.lookup x1 = some .local := by first | exact .inl rfl | exact .inr rfl) (hf2 : X.fn x2 = true ∨ X.env.scope.names.lookup x2 = some .local := by first | exact .inl rfl | exact .inr rfl)
    {kk} (hg : PG X (.Tuple [.Name x1 p1, .Name x2 p2] kk p3) (gTup X.K 2 (gCons (gName i1) (gCons (gName i2) gNil))) := by exact pg_tup (by first | rfl | assumption) (pgs_cons (pg_name (by assumption) (by assumption) (by assumption) (by assumption)) (pgs_cons (pg_name (by assumption) (by assumption) (by assumption) (by assumption)) pgs_nil)))
    (hgl : Gl X "enumerate" := by rfl) (hse : starEach [e] X.env = [(false, eval e X.env)] := by rfl) (hs : ∀ x, foldedSetIterable (.Call (.Name "enumerate" p) [e] [] pos') X.env x = pure x := by intro _; rfl) :
    JS X W KE (.For (.Tuple [.Name x1 p1, .Name x2 p2] kk p3) (.Call (.Name "enumerate" p) [e] [] pos') A [] pos) n μ P :=
  js_of (ps_for ow c.calm (pi_enum hgl hm paC hse) hg pbC hs) fun σ H D ev rp t q => by
    have h' : JA X W KE [e] n μ fun ds μ1 => ∃ d, ds = [d] ∧ ∃ xs, SqD μ1 d xs ∧ ∃ Iv : Nat → En → M → Prop, Mid (Iv 0) n μ1 ∧ (∀ j n' μ', Iv j n' μ' → SqD μ' d xs) ∧
      (∀ j x e μ', xs[j]? = some x → Iv j e μ' → JB X W KE A ((e.set i1 (some (.int (j : Nat)))).set i2 (some x)) μ' { nx := Mid (Iv (j + 1)), ct := Mid (Iv (j + 1)), bk := P.nx, rt := P.rt }) ∧ ∀ e μ', Iv xs.length e μ' → ∀ n', LeE n' e → P.nx n' μ' :=
      ja_one (h.mono fun d μ1 z => ⟨d, rfl, z⟩) (by rw [hse]; rfl)
    refine h' σ H _ ev rp t fun vs ds H1 μ1 h1 s1 r1 dd => ?_
    obtain ⟨d, rfl, xs, ok1, Iv, h0, hok, hturn, hend⟩ := h1
    cases dd with
    | cons d1 dn =>
    cases dn
    obtain ⟨a, vs1, rfl, ha1, _⟩ := ok1.rep r1 d1
    refine ⟨a, vs1, rfl, ha1, ?_⟩
    refine ⟨fun j m σ' H' => m = xs.length - j ∧ j ≤ xs.length ∧ ∃ n' μ', Mid (Iv j) n' μ' ∧ Env X.K μ' H' σ' n' ∧ Step μ H μ' H' ∧ Rep X.K μ' H' ∧ DRep X.K μ' H' (.ref a) d, ⟨xs.length, by simp, Nat.zero_le _, n, μ1, h0, ev.step s1, s1, r1, d1⟩, ?_⟩
    rintro j m σ' H' ⟨rfl, hj, n', μ', ⟨e2, le2, iv⟩, ev', st', rp', dr'⟩
    have ok' := hok j e2 μ' iv
    obtain ⟨a', vs', ea, ha', ra'⟩ := ok'.rep rp' dr'
    cases ea
    by_cases hlt : j < xs.length
    · obtain ⟨x, hx⟩ : ∃ x, xs[j]? = some x := ⟨_, List.getElem?_eq_getElem hlt⟩
      obtain ⟨v, hv, dv⟩ := ra'.get hx
      refine .inr ⟨⟨vs', v, ha', hv⟩, fun σ2 H2 => ∃ n2 μ2, Mid (Iv (j + 1)) n2 μ2 ∧ Env X.K μ2 H2 σ2 n2 ∧ Step μ H μ2 H2 ∧ Rep X.K μ2 H2 ∧ DRep X.K μ2 H2 (.ref a) d, fun σ2 H2 z => ⟨xs.length - (j + 1), by omega, rfl, hlt, z⟩, fun w H2 yv => ?_⟩
      obtain ⟨T, x', rfl, hT, rfl, hx'⟩ := yv
      have e' : x' = v := by have := hx' vs' ha'; rw [hv] at this; exact (Option.some.inj this).symm
      subst e'
      have sN : Step μ' H' μ' (upd H' T (.tup [.int (j : Nat), x'])) := Step.new hT
      refine ⟨T, [.int (j : Nat), x'], rfl, SqT.of upd_same, rfl, _, _, rfl, _, _, rfl, rfl, ?_⟩
      have ev2 : Env X.K μ' (upd H' T (.tup [.int (j : Nat), x'])) ((σ'.set i1 (some (.int (j : Nat)))).set i2 (some x')) ((e2.set i1 (some (.int (j : Nat)))).set i2 (some x)) :=
        (((ev'.le le2).step sN).set (.int _) i1).set (dv.step sN) i2
      refine hturn j x e2 μ' hx iv _ _ _ ev2 (rp'.new hT) (t.step (st'.trans sN)) ⟨fun σ2 e3 H2 μ2 a1 b1 c1 d1 => ?_, q.rt.step (st'.trans sN), fun σ2 e3 H2 μ2 a1 b1 c1 d1 => ?_, fun σ2 e3 H2 μ2 a1 b1 c1 d1 => ?_⟩
      · exact ⟨e3, μ2, a1, b1, (st'.trans sN).trans c1, d1, (dr'.step sN).step c1⟩
      · exact q.nx _ _ _ _ a1 b1 ((st'.trans sN).trans c1) d1
      · exact ⟨e3, μ2, a1, b1, (st'.trans sN).trans c1, d1, (dr'.step sN).step c1⟩
    · have ej : j = xs.length := by omega
      subst ej
      exact .inl ⟨⟨vs', ha', by rw [ra'.length]; exact Nat.le_refl _⟩, q.nx _ _ _ _ (hend e2 μ' iv n' le2) ev' st' rp'⟩
end
end DL

/-! ## a sign n times -/
namespace DL
open PySem PySem.Spec L2
def repS (c : Nat) (n : Nat) : Str := ⟨(List.replicate n c).toArray⟩
theorem repS_len (c n : Nat) : (repS c n).length = n := by
  show (List.replicate n c).toArray.size = n
  simp
theorem fold_rep (c : Nat) : ∀ (n : Nat) (acc : List Nat), (List.replicate n (#[c] : Array Nat)).foldl (· ++ ·) acc.toArray = (acc ++ List.replicate n c).toArray
  | 0, acc => by simp
  | n + 1, acc => by
    rw [List.replicate_succ, List.foldl_cons]
    have e : acc.toArray ++ #[c] = (acc ++ [c]).toArray := by simp
    rw [e, fold_rep c n (acc ++ [c]), List.append_assoc]
    rfl
def rMulSg : R2 := fun x y H Q => ∃ (c : Nat) (n : Int), x = .str ⟨#[c]⟩ ∧ y = .int n ∧ 0 ≤ n ∧ n ≤ 100000 ∧ Q (.str (repS c n.toNat)) H
theorem op_mulSg {X : Cx} : OpR X (binaryOp .Mult) rMulSg := by
  intro pins s σ H x y v u Q I rx ry h
  obtain ⟨c, n, rfl, rfl, h0, h1, q⟩ := h
  obtain ⟨t, rfl⟩ := rx
  obtain ⟨t2, rfl⟩ := ry
  have hl : (⟨#[c]⟩ : Str).length = 1 := rfl
  refine PySem.P.mul_str (by rw [decide_eq_false (by omega), decide_eq_false (by omega)]; rfl) (fun h2 h3 => ?_) (fun h2 h3 => ?_) ?_
  · rw [hl]
    have : 1 ≤ ((2 ^ 63 - 1 : Int)) / n := (Int.le_ediv_iff_mul_le (by omega)).mpr (by omega)
    omega
  · rw [hl, Nat.one_mul]
    unfold Builtin.Str.tooLong
    have := sizeLine_eq
    simp
    omega
  · by_cases z : n < 1
    · rw [if_pos z]
      have e : n = 0 := by omega
      subst e
      exact ⟨by decide, .str (repS c 0), H, I.tok _, ⟨_, rfl⟩, q⟩
    · rw [if_neg z]
      by_cases z1 : n = 1
      · subst z1
        rw [if_pos (by rfl)]
        exact ⟨.str (repS c 1), H, I, ⟨_, rfl⟩, q⟩
      · rw [if_neg (by rw [hl]; simp; omega)]
        have e := fold_rep c n.toNat []
        rw [List.nil_append] at e
        show (⟨(List.replicate n.toNat (#[c] : Array Nat)).foldl (· ++ ·) #[]⟩ : Str).length ≤ sizeLine ∧ _
        rw [show ((List.replicate n.toNat (#[c] : Array Nat)).foldl (· ++ ·) #[]) = (List.replicate n.toNat c).toArray from e]
        refine ⟨?_, .str (repS c n.toNat), H, I.tok _, ⟨_, rfl⟩, q⟩
        show (repS c n.toNat).length ≤ sizeLine
        rw [repS_len, sizeLine_eq]
        omega
section
variable {X : Cx} {W : WX} {KE : XD} {a b : Expr} {n : En} {μ : M} {k : DK} {pos : Pos} {K : Kf}
theorem je_mulSg (h : JE X W KE a n μ fun x μ1 => JE X W KE b n μ1 fun y μ2 => DOp X.K rMulSg x y μ2 k) : JE X W KE (.BinOp a .Mult b pos) n μ k := je_bin op_mulSg h
theorem d_mulSg {c : Nat} {i : Int} (h0 : 0 ≤ i) (h1 : i ≤ 100000) (h : k (.str (repS c i.toNat)) μ) : DOp K rMulSg (.str ⟨#[c]⟩) (.int i) μ k := fun u v H Q r du dv t => by
  cases du; cases dv
  exact ⟨c, i, rfl, rfl, h0, h1, tl_pure t h r (.str _)⟩
end
theorem swaps_list {es : List Expr} {p : Pos} {t : Option Expr} {l : Nat} {env : PySem.Env} : swapsWith (.List es p) t l env = pure false := rfl
theorem swaps_bin {a b : Expr} {op : Operator} {p : Pos} {t : Option Expr} {l : Nat} {env : PySem.Env} : swapsWith (.BinOp a op b p) t l env = pure false := rfl
end DL

/-! ## exceptions with their own __init__ -/
namespace DL
open PySem PySem.Spec L2
/-- what is known of GateError.__init__ -/
structure GeI (K : Kf) (mg : Str → Option Value) (GE : Addr) : Prop where
  g : mg "GateError" = some (.ref GE)
  s : PySem.W.specialIn K (.ref GE) "__getattribute__" = some (some (.builtin "type.__getattribute__"))
  r : PySem.W.readsIn K GE (.type "type") = true
  f : PySem.W.findCls K (.ref GE) (.type "type") "__init__" = some (.val (.builtin "ValueError.__init__"))
/-- an exception class with its own __init__ f -/
structure XIn (K : Kf) (mg : Str → Option Value) (x : Str) (C f : Addr) : Prop where
  o : OexC K C
  g : mg x = some (.ref C)
  i : PySem.W.findIn K (.ref C) "__init__" = some (some (.ref f))
  t : PySem.W.typeIn K (.ref f) = some (.type "function")
section
variable {X : Cx} {o e : Expr} {es : List Expr} {to te : TE} {ta : TA} {f : Str} {p p' p1 p2 pos : Pos}
theorem pe_geinit {GE : Addr} {pl : Sem Bool} (G : GeI X.K X.mg GE) (hg : Gl X "GateError") (ha : PA X (e :: es) ta)
    (hc : eval (.Call (.Attribute (.Name "GateError" p1) "__init__" p2) (e :: es) [] pos) X.env = (do
      let ov ← eval (.Name "GateError" p1) X.env
      standAt p2.atName
      let (f, first) ← holding [ov] (getMethod ov "__init__" pl)
      callWith pos f first (backTo pos (starEach (e :: es) X.env)) (backToKw pos (keywordEach [] X.env))) := by rfl)
    (he : starEach (e :: es) X.env = (false, eval e X.env) :: starEach es X.env := by rfl) (hpl : (backTo pos (starEach es X.env)).any (·.1) = false := by rfl) :
    PE X (.Call (.Attribute (.Name "GateError" p1) "__init__" p2) (e :: es) [] pos) (tVeI X.K ta) := by
  refine ⟨fun pins s σ H Q I h => ?_⟩
  refine PySem.W.methodCall_KW (ld_glob I hg G.g ?_ (by decide)) hc
  refine PySem.W.method_cls I.kIn G.s (PySem.W.cls_value I.kIn G.r G.f (by decide +kernel) ?_)
  show wpAny _ _ (callWith pos (Value.builtin "ValueError.__init__") [] (backTo pos (starEach (e :: es) X.env)) []) _ _ _
  refine PyProof.Rows.callWith_method1 (thn (ha.run pos pins _ σ H _ (I.tok _) h) fun us s1 ⟨vs, H1, I1, r1, a, C, ws, ev, hl, T, ea, q⟩ => ?_) he hpl
  subst ev
  cases r1 with
  | @cons _ u0 _ ur ra rw' =>
    obtain rfl : u0 = Value.ref a := ra
    have hlen : ur.length ≤ sizeLine := by
      rw [← Paired.length rw', sizeLine_eq]
      omega
    exact oinit_ok T I1 ea hlen fun s' J => ⟨.non, H1, J, rfl, q⟩
end
/-- the promise of an __init__ that stores one field -/
def sp1 (fld : Str) (C : Addr) : Sp := fun vs H Q _ => ∃ (a : Addr) (v : V), vs = [.ref a, v] ∧ H a = some (exo a C none) ∧ ∀ dx, H dx = none → dx ≠ a → Q .non (upd (upd H dx (exd dx [(fld, v)])) a (exo a C (some dx)))
/-- two fields -/
def sp2 (f1 f2 : Str) (C : Addr) : Sp := fun vs H Q _ => ∃ (a : Addr) (v w : V), vs = [.ref a, v, w] ∧ H a = some (exo a C none) ∧ ∀ dx, H dx = none → dx ≠ a → Q .non (upd (upd (upd H dx (exd dx [(f1, v)])) a (exo a C (some dx))) dx (exd dx [(f2, w), (f1, v)]))
structure DExI (P : Program) (w : World) (K : Kf) (mg : Str → Option Value) (base : Heap) (k : Nat) (x : Str) (C : Addr) (sp : Sp) : Prop where
  ex : ∃ (f : Addr) (fd : FuncData) (ps : List Str), FnOk P w K mg base (L2.CX P w) k f fd ps sp ∧ Binds K fd ps [] ∧ XIn K mg x C f
theorem passF {P : Program} {w : World} {X : Cx} : Passes (L2.CX P w) X (fun _ _ _ => False) := fun _ _ _ _ _ _ _ h => by
  obtain ⟨_, _, _, _, _, _, _, _, _, _, _, _, z⟩ := h
  exact z.elim
theorem exo_gone {H1 : Hp} {a dx C : Addr} {o1 o2 o3 o4 : HO} (ha : H1 a = none) (ne : dx ≠ a) : upd (del (upd (upd (upd H1 a o1) dx o2) a o3) a) dx o4 = upd H1 dx o4 := by
  funext b
  by_cases z : b = dx
  · rw [z, upd_same, upd_same]
  · rw [upd_ne z, upd_ne z]
    by_cases y : b = a
    · rw [y, del_same, ha]
    · rw [del_ne y, upd_ne y, upd_ne z, upd_ne y]
theorem exo_gone2 {H1 : Hp} {a dx C : Addr} {o1 o2 o3 o4 o5 : HO} (ha : H1 a = none) (ne : dx ≠ a) : upd (del (upd (upd (upd (upd H1 a o1) dx o2) a o3) dx o5) a) dx o4 = upd H1 dx o4 := by
  funext b
  by_cases z : b = dx
  · rw [z, upd_same, upd_same]
  · rw [upd_ne z, upd_ne z]
    by_cases y : b = a
    · rw [y, del_same, ha]
    · rw [del_ne y, upd_ne z, upd_ne y, upd_ne z, upd_ne y]
section
variable {X : Cx} {W : WX} {KE : XD} {e e1 e2 : Expr} {es : List Expr} {n : En} {μ : M} {k : DK} {P : Ed} {p pos pos' : Pos} {x f fld f1 f2 : Str} {kl j : Nat} {C : Addr}
theorem js_raiseI1 (c : Cok kl X W) (F : DExI X.prog X.w X.K X.mg X.base j x C (sp1 fld C)) (hj : j + 1 ≤ kl) (h : JE X W KE e n μ fun d μ1 => KE (.ref C) [(fld, d)] n μ1) (hg : Gl X x := by rfl)
    (hdb : (x == ("__debug__" : Str)) = false := by decide) (hs : starEach [e] X.env = (false, eval e X.env) :: starEach [] X.env := by rfl) (hpl : (backTo pos (starEach [] X.env)).any (·.1) = false := by rfl) : JS X W KE (.Raise (some (.Call (.Name x p) [e] [] pos)) none pos') n μ P := by
  obtain ⟨fI, fd, ps, F1, hb, T⟩ := F.ex
  refine js_of (ps_raise c.calm c.tk (pmk_oex T.o T.i T.t F1 (c.room.mono hj) hb .nil passF hg T.g paC hdb hs hpl)) fun σ H D ev rp t q => ?_
  have h' : JA X W KE [e] n μ fun ds μ1 => ∃ d, ds = [d] ∧ KE (.ref C) [(fld, d)] n μ1 := ja_one (h.mono fun d μ1 z => ⟨d, rfl, z⟩) hs
  refine h' σ H _ ev rp t fun vs ds H1 μ1 h1 s1 r1 dd => ?_
  obtain ⟨d, rfl, hk⟩ := h1
  cases dd with
  | cons d1 dn =>
    cases dn
    refine ⟨by simp, fun a ha => ⟨a, _, rfl, upd_same, fun dx hdx ne => ⟨rfl, dx, _, upd_same, (upd_ne ne).trans upd_same, by rw [upd_ne ne] at hdx; exact hdx, ?_⟩⟩⟩
    have hdx1 : H1 dx = none := by rw [upd_ne ne] at hdx; exact hdx
    rw [exo_gone (C := C) ha ne]
    have sN : ∀ o, Step μ1 H1 μ1 (upd H1 dx o) := fun o => Step.new hdx1
    exact t (.ref C) _ (some dx) σ n _ μ1 hk (ev.step (s1.trans (sN _))) (s1.trans (sN _)) (r1.new hdx1) ⟨_, upd_same, r1.free hdx1, .cons (d1.step (sN _)) .nil⟩
theorem js_raiseI2 (c : Cok kl X W) (F : DExI X.prog X.w X.K X.mg X.base j x C (sp2 f1 f2 C)) (hj : j + 1 ≤ kl) (h : JE X W KE e1 n μ fun d μ1 => JE X W KE e2 n μ1 fun d2 μ2 => KE (.ref C) [(f2, d2), (f1, d)] n μ2) (hg : Gl X x := by rfl)
    (hdb : (x == ("__debug__" : Str)) = false := by decide) (hs : starEach [e1, e2] X.env = (false, eval e1 X.env) :: starEach [e2] X.env := by rfl) (hs2 : starEach [e2] X.env = (false, eval e2 X.env) :: starEach [] X.env := by rfl) (hpl : (backTo pos (starEach [e2] X.env)).any (·.1) = false := by rfl) : JS X W KE (.Raise (some (.Call (.Name x p) [e1, e2] [] pos)) none pos') n μ P := by
  obtain ⟨fI, fd, ps, F1, hb, T⟩ := F.ex
  refine js_of (ps_raise c.calm c.tk (pmk_oex T.o T.i T.t F1 (c.room.mono hj) hb .nil passF hg T.g paC hdb hs hpl)) fun σ H D ev rp t q => ?_
  have h' : JA X W KE [e1, e2] n μ fun ds μ2 => ∃ d d2, ds = [d, d2] ∧ KE (.ref C) [(f2, d2), (f1, d)] n μ2 := ja_cons (h.mono fun d μ1 z => ja_one (z.mono fun d2 μ2 z2 => ⟨d, d2, rfl, z2⟩) hs2) hs
  refine h' σ H _ ev rp t fun vs ds H1 μ1 h1 s1 r1 dd => ?_
  obtain ⟨d, d2, rfl, hk⟩ := h1
  cases dd with
  | cons d1 dn =>
    cases dn with
    | cons d3 dn =>
    cases dn
    refine ⟨by simp, fun a ha => ⟨a, _, _, rfl, upd_same, fun dx hdx ne => ⟨rfl, dx, _, (upd_ne ne.symm).trans upd_same, upd_same, by rw [upd_ne ne] at hdx; exact hdx, ?_⟩⟩⟩
    have hdx1 : H1 dx = none := by rw [upd_ne ne] at hdx; exact hdx
    rw [exo_gone2 (C := C) ha ne]
    have sN : ∀ o, Step μ1 H1 μ1 (upd H1 dx o) := fun o => Step.new hdx1
    exact t (.ref C) _ (some dx) σ n _ μ1 hk (ev.step (s1.trans (sN _))) (s1.trans (sN _)) (r1.new hdx1) ⟨_, upd_same, r1.free hdx1, .cons (d3.step (sN _)) (.cons (d1.step (sN _)) .nil)⟩
/-- the attribute of an exception -/
theorem pe_xfld {te : TE} (he : PE X e te) (hb : attributeBase e f X.env (eval e X.env) = eval e X.env) : PE X (.Attribute e f pos) (fun σ H Q => te σ H fun x H1 => ∃ (z C dd : Addr) (vs : List (Str × V)) (v : V), x = .ref z ∧ H1 z = some (ExD (.ref C) (some dd) z) ∧ H1 dd = some (.xd vs) ∧ ExcC X.K C ∧ PySem.W.findIn X.K (.ref C) f = some none ∧ vs.lookup f = some v ∧ Q v H1) := by
  refine ⟨fun pins s σ H Q I h => ?_⟩
  refine attr_of hb (thn (he.run pins s σ H _ I h) fun u s1 hh => ?_)
  obtain ⟨x, H1, I1, rx, z, C, dd, vs, v, ex, hz, hd, E, nf, hl, q⟩ := hh
  subst ex
  obtain rfl : u = Value.ref z := rx
  obtain ⟨⟨oe, ws, ge, zc, dat⟩, _, _⟩ := I1.hok z _ hz
  obtain ⟨mA, hns, hr⟩ := (show ∃ mA, s1.heap.Ns1 dd mA ∧ _ from I1.hok dd _ hd)
  obtain ⟨od, ho, hlk⟩ := lookIn_ns hns
  obtain ⟨w, hw, rw⟩ := RelO.some_of (v := v) (o := mA f) (by rw [← hl]; exact hr f)
  have J : PySem.W.InstAt s1.heap z oe C (some od) := ⟨ge, zc.1, by unfold PySem.W.notCls; rw [dat] <;> rfl, by rw [zc.2]; exact ho⟩
  exact HandSPX.exc_get I1.kIn J E.hg E.hk E.hs (PySem.W.findObj_own E.hd nf rfl (by rw [hlk, hw])) (handed_of rw) ⟨v, H1, I1.tok _, rw, q⟩
theorem je_xfld (h : JE X W KE e n μ fun d μ1 => ∃ C fs v, d = .exc C fs ∧ ExcC X.K C ∧ PySem.W.findIn X.K (.ref C) f = some none ∧ fs.lookup f = some v ∧ k v μ1) (hb : attributeBase e f X.env (eval e X.env) = eval e X.env := by rfl) : JE X W KE (.Attribute e f pos) n μ k :=
  je_of (pe_xfld peC hb) fun σ H Q ev rp t q => by
    refine h σ H _ ev rp t fun u x H1 μ1 h1 s1 r1 d1 => ?_
    obtain ⟨C, fs, v, rfl, E, nf, hl, hk⟩ := h1
    cases d1 with
    | exc0 hz nz => cases hl
    | exc1 hz nz hd nd rr =>
      obtain ⟨w, e1, e2⟩ := rr.get hl
      exact ⟨_, C, _, _, w, rfl, hz, hd, E, nf, e1, q _ _ _ _ hk s1 r1 e2⟩
end
end DL

/-! ## max(xs, default=d) -/
namespace DL
open PySem PySem.Spec L2 PyProof.Rows
theorem args_maxd (a d : Value) : argsOk "max" ⟨[a], [(Str.ofString "default", d)]⟩ := by unfold argsOk; kernel_rfl
section
variable {prog : Program} {w : World} {A : Around} {R : Result → Shared → Prop} {I : Addr} {fp wr : List Addr} {n : Nat} {Pq : Nat → Value → Prop} {Sq : Nat → Heap → Prop} {d : Value}
/-- what the loop holds behind j turns -/
def HeldD (bt : Nat → Nat → Bool) (Pq : Nat → Value → Prop) (j : Nat) (old : Array Value) : Prop := (j = 0 ∧ old = #[]) ∨ ∃ i vb, j = i + 1 ∧ old = #[vb, vb] ∧ Pq (argBest bt i) vb
theorem maxd_loop (W : Walks prog w A.in1 I fp wr n Pq Sq) (bt : Nat → Nat → Bool) (hc : CmpOf prog w A.in1 .Gt Pq bt) (S : Addr) (hS : S ∉ fp) :
    ∀ (k j : Nat) (s : Shared) (old : Array Value) (c : Nat), n - j = k → j ≤ n → Sq j s.heap → HeldD bt Pq j old → s.heap.get? S = some { cls := .type "list", dict := none, data := .seq old c, slots := #[] } →
    (∀ v h' tk, (n = 0 → v = d) → (0 < n → Pq (argBest bt (n - 1)) v) → (∀ b o, b ∉ wr → b ≠ S → s.heap.get? b = some o → h'.get? b = some o) → R (.ok (.ret v)) { s with heap := h', toks := tk }) →
    codeAny (model prog w) A (.builtin "max.loop" ⟨[.ref I, .none, .ref S], [(Str.ofString "default", d)]⟩) R s := by
  have nm : (toString "max" ++ toString ".loop" : String) = "max.loop" := by decide
  have nw : S ∉ wr := fun z => hS (W.sub _ z)
  intro k
  induction k with
  | zero =>
    intro j s old c ek lj st hd gS out
    obtain rfl : j = n := by omega
    apply codeAny_builtin F.entry_max_loop
    rw [Around.under_plainId F.plain_max_loop _]
    show wpAny _ A.in1 (seqItems? (.ref S) >>= _) _ _ s
    apply wpAny_bind
    refine wpAny_seqItems gS rfl ?_
    show wpAny _ A.in1 (tryCatch (pyNext (.ref I)) _ >>= _) _ _ s
    apply wpAny_bind
    apply wpAny_tryCatch
    refine W.done s _ _ st fun h1 tk k1 => ?_
    rcases hd with ⟨rfl, rfl⟩ | ⟨i, vb, rfl, rfl, pv⟩
    · refine wpAny_bind (wpAny_rule (wpAny_pure ?_))
      exact out d _ tk (fun _ => rfl) (fun z => absurd z (Nat.lt_irrefl _)) fun b o hb _ e => k1 b o hb e
    · show wpAny _ A.in1 (updateSeq S (fun _ => #[]) >>= _) _ _ _
      apply wpAny_bind
      refine wpAny_updateSeq (k1 S _ nw gS) rfl (wpAny_bind (wpAny_letGo (wpAny_pure ?_)))
      refine out vb _ tk (fun z => absurd z (Nat.succ_ne_zero _)) (fun _ => pv) fun b o hb hne e => ?_
      rw [Heap.get?_update_other _ _ (Ne.symm hne)]
      exact k1 b o hb e
  | succ k ih =>
    intro j s old c ek lj st hd gS out
    have jn : j < n := by omega
    apply codeAny_builtin F.entry_max_loop
    rw [Around.under_plainId F.plain_max_loop _]
    show wpAny _ A.in1 (seqItems? (.ref S) >>= _) _ _ s
    apply wpAny_bind
    refine wpAny_seqItems gS rfl ?_
    show wpAny _ A.in1 (tryCatch (pyNext (.ref I)) _ >>= _) _ _ s
    apply wpAny_bind
    apply wpAny_tryCatch
    refine W.item j s _ _ jn st fun v h1 tk pv st1 k1 => ?_
    have gS1 := k1 S _ nw gS
    have put : ∀ (f : Array Value → Array Value) (h2 : Heap), h2 = h1.update S (Obj.mapSeq f) → ∀ b ∈ fp, ∀ o, h1.get? b = some o → h2.get? b = some o := fun f h2 e b hb o q => by
      subst e
      rw [Heap.get?_update_other _ _ (fun z : S = b => hS (z ▸ hb))]
      exact q
    rcases hd with ⟨rfl, rfl⟩ | ⟨i, vb, rfl, rfl, pb⟩
    · show wpAny _ A.in1 (updateSeq S (fun _ => #[v, v]) >>= _) _ _ _
      apply wpAny_bind
      refine wpAny_updateSeq gS1 rfl ?_
      rw [nm]
      refine wpAny_pure ⟨plainId_quiet F.plain_max_loop _, ih 1 _ #[v, v] _ (by omega) jn (W.frame _ _ _ st1 fun b hb o q => put _ _ rfl b hb o q) (.inr ⟨0, v, rfl, rfl, pv⟩) (Heap.get?_update_self _ gS1 rfl) fun v' h2 tk2 z0 z1 k2 => ?_⟩
      exact out v' h2 tk2 z0 z1 fun b o hb hne e => k2 b o hb hne (by rw [Heap.get?_update_other _ _ (Ne.symm hne)]; exact k1 b o hb e)
    · show wpAny _ A.in1 (tryCatch (holding [v, v] (richCompare .Gt v vb >>= _)) _ >>= _) _ _ _
      apply wpAny_bind
      refine wpAny_tryCatch (wpAny_holding (wpAny_bind (hc (i + 1) (argBest bt i) v vb _ _ _ pv pb ?_)))
      refine wpAny_bind (wpAny_holding (wpAny_truthy_bool (wpAny_bind (wpAny_letGo (wpAny_pure ?_)))))
      cases q : bt (i + 1) (argBest bt i) with
      | true =>
        rw [if_pos rfl]
        apply wpAny_bind
        refine wpAny_updateSeq gS1 rfl (wpAny_bind (wpAny_letGo ?_))
        rw [nm]
        refine wpAny_pure ⟨plainId_quiet F.plain_max_loop _, ih (i + 2) _ #[v, v] _ (by omega) jn (W.frame _ _ _ st1 fun b hb o q => put _ _ rfl b hb o q) (.inr ⟨i + 1, v, rfl, rfl, by simp only [argBest, q, if_true]; exact pv⟩) (Heap.get?_update_self _ gS1 rfl) fun v' h2 tk2 z0 z1 k2 => ?_⟩
        exact out v' h2 tk2 z0 z1 fun b o hb hne e => k2 b o hb hne (by rw [Heap.get?_update_other _ _ (Ne.symm hne)]; exact k1 b o hb e)
      | false =>
        rw [if_neg Bool.false_ne_true]
        refine wpAny_bind (wpAny_letGo ?_)
        rw [nm]
        refine wpAny_pure ⟨plainId_quiet F.plain_max_loop _, ih (i + 2) _ #[vb, vb] c (by omega) jn st1 (.inr ⟨i + 1, vb, rfl, rfl, by simp only [argBest, q]; exact pb⟩) gS1 fun v' h2 tk2 z0 z1 k2 => ?_⟩
        exact out v' h2 tk2 z0 z1 fun b o hb hne e => k2 b o hb hne (k1 b o hb e)
end
section
variable {prog : Program} {w : World} {A : Around} {E : Value → Shared → Prop} {s : Shared} {d : Value}
theorem maxd_go {x : Value} {Q : Value → Shared → Prop} (nm : (toString "max" ++ toString ".loop" : String) = "max.loop")
    (h : wpAny (model prog w) A.in1 (pyIter x) (fun it s2 => ∃ I fp wr n Pq Sq bt, it = .ref I ∧ Walks prog w A.in1 I fp wr n Pq Sq ∧ Sq 0 s2.heap ∧ (∀ b ∈ fp, b < s2.heap.objs.size) ∧ CmpOf prog w A.in1 .Gt Pq bt ∧
      ∀ v h' tk, (n = 0 → v = d) → (0 < n → Pq (argBest bt (n - 1)) v) → (∀ b o, b ∉ wr → s2.heap.get? b = some o → h'.get? b = some o) → Q v { s2 with heap := h', toks := tk }) E s) :
    wpAny (model prog w) A.in1 (Builtin.«max» ⟨[x], [(Str.ofString "default", d)]⟩) (fun fin s' => match fin with
      | .done f => (match (Except.ok f : Result) with | .ok (.ret v) => Q v s' | .ok _ => False | .error e => E e s')
      | .again c' => c'.quiet = true ∧ codeAny (model prog w) A c' (fun r s' => match r with | .ok (.ret v) => Q v s' | .ok _ => False | .error e => E e s') s') E s := by
  show wpAny _ A.in1 (Builtin.Builtins.bindParams "max" ["key", "default"] 0 ⟨[], [(Str.ofString "default", d)]⟩ >>= _) _ _ s
  refine wpAny_bind (wpAny_of_eq (show Builtin.Builtins.bindParams "max" ["key", "default"] 0 ⟨[], [(Str.ofString "default", d)]⟩ = pure [none, some d] from by kernel_rfl) ?_)
  refine wpAny_bind (wpAny_pure (wpAny_bind (wpAny_mono h (fun it s2 h2 => ?_) fun _ _ e => e)))
  obtain ⟨I, fp, wr, n, Pq, Sq, bt, rfl, W, st, hfp, hc, out⟩ := h2
  refine wpAny_bind (wpAny_newObj_type ?_)
  rw [nm]
  refine wpAny_pure ⟨plainId_quiet F.plain_max_loop _, maxd_loop W bt hc s2.heap.objs.size (fun z => Nat.lt_irrefl _ (hfp _ z)) n 0 _ #[] _ rfl (Nat.zero_le _) (W.frame _ _ _ st fun b _ o e => Heap.get?_push_of_some _ e) (.inl ⟨rfl, rfl⟩) (Heap.get?_push_size _ rfl) fun v h' tk z0 z1 k => ?_⟩
  exact out v h' tk z0 z1 fun b o hb e => k b o hb (Nat.ne_of_lt (Heap.lt_size e)) (Heap.get?_push_of_some _ e)
theorem call_maxd {x : Value} {Q : Value → Shared → Prop}
    (h : wpAny (model prog w) A.in1 (pyIter x) (fun it s2 => ∃ I fp wr n Pq Sq bt, it = .ref I ∧ Walks prog w A.in1 I fp wr n Pq Sq ∧ Sq 0 s2.heap ∧ (∀ b ∈ fp, b < s2.heap.objs.size) ∧ CmpOf prog w A.in1 .Gt Pq bt ∧
      ∀ v h' tk, (n = 0 → v = d) → (0 < n → Pq (argBest bt (n - 1)) v) → (∀ b o, b ∉ wr → s2.heap.get? b = some o → h'.get? b = some o) → Q v { s2 with heap := h', toks := tk }) E s) :
    wpAny (model prog w) A (call (.builtin "max") [x] [(Str.ofString "default", d)]) Q E s := by
  have nm : (toString "max" ++ toString ".loop" : String) = "max.loop" := by decide
  apply wpAny_call
  apply codeAny_call_builtin F.plain_max F.entry_max
  simp only [checkBuiltinCall, F.kind_max]
  have ok := args_maxd x d
  unfold argsOk at ok
  cases sg : Manifest.signature? "max" with
  | none => exact wpAny_pure (maxd_go nm h)
  | some g =>
    rw [sg] at ok
    show wpAny _ A.in1 (Bind.checkArgs "max" g ⟨[x], [(Str.ofString "default", d)]⟩) _ _ s
    rw [show Bind.checkArgs "max" g ⟨[x], [(Str.ofString "default", d)]⟩ = pure () from ok]
    exact wpAny_pure (maxd_go nm h)
end
end DL
namespace DL
open PySem PySem.Spec L2
def rMaxDf (K : Kf) : List V → List V → Hp → VK → Prop := fun xs zs H Q => ∃ (a : Addr) (ns : List Int) (d : Int), xs = [.ref a] ∧ zs = [.int d] ∧ SqL K H a (ns.map V.int) ∧ ∀ m, (ns = [] → m = d) → (ns ≠ [] → m ∈ ns ∧ ∀ y ∈ ns, y ≤ m) → Q (.int m) H
theorem call_maxDf {X : Cx} (hc : X.calm = true) : CallRK X (.builtin "max") [Str.ofString "default"] (rMaxDf X.K) := by
  intro pins s σ H xs zs us ws Q I r rz h
  obtain ⟨a, ns, d, rfl, rfl, hs, q⟩ := h
  obtain ⟨its, rv, hl0, _⟩ := I.list hs
  rw [Vals.ref1 r]
  cases rz with
  | cons rd rn =>
    cases rn
    obtain ⟨td, rfl⟩ := rd
    have hl := hl0.isList
    have hi := rv.ints
    obtain ⟨zs, e⟩ := hi.allInts.items
    have hn : numsOf (PySem.intItems zs).toList = ns := by rw [← e]; exact hi.numsOf
    rw [nums_intItems] at hn
    subst hn
    rw [e] at hl
    show wpAny _ _ (call (.builtin "max") [.ref a] [(Str.ofString "default", Value.int d td)]) _ _ _
    refine call_maxd (PySem.iter_intList hl fun s2 e2 st hfp hlI => ?_)
    subst e2
    refine ⟨_, _, _, _, _, _, _, rfl, Walks.list (A := X.A.in1) (I.ok.hd hc) _ a hlI (PySem.intItems zs), st, hfp, CmpOf.ints_gt (PySem.numAt zs) (fun _ _ => PySem.intItems_at), fun v h' tk z0 z1 k => ?_⟩
    have kept := PySem.old_kept k
    have hsz : (PySem.intItems zs).size = zs.size := by simp [PySem.intItems]
    by_cases z : zs.size = 0
    · have hv := z0 (by rw [hsz]; exact z)
      subst hv
      refine ⟨.int d, H, I.kept kept, ⟨_, rfl⟩, q d (fun _ => rfl) fun y => absurd ?_ y⟩
      rw [List.map_eq_nil_iff]
      exact List.eq_nil_of_length_eq_zero (by simpa using z)
    · have hv := z1 (by rw [hsz]; omega)
      obtain ⟨t, rfl⟩ := PySem.intItems_at hv
      obtain ⟨h1, h2⟩ := argBest_gt (PySem.numAt zs) ((PySem.intItems zs).size - 1)
      refine ⟨.int _, H, I.kept kept, ⟨_, rfl⟩, q _ (fun y => absurd (congrArg List.length y) (by simp; simpa using z)) fun _ => ⟨?_, fun y hy => ?_⟩⟩
      · rw [PySem.numAt_eq]; exact PySem.getD_mem (by rw [List.length_map, Array.length_toList]; omega)
      · obtain ⟨j, hj, rfl⟩ := PySem.mem_getD hy
        rw [List.length_map, Array.length_toList] at hj
        rw [← PySem.numAt_eq]; exact h2 j (by omega)
section
variable {X : Cx} {W : WX} {KE : XD} {e f : Expr} {n : En} {μ : M} {k : DK} {p pos kp : Pos} {kl : Nat}
/-- max(e, default=f) -/
theorem je_maxDf (c : Cok kl X W) (hm : X.mg "max" = none) (h : JE X W KE e n μ fun d μ1 => JE X W KE f n μ1 fun z μ2 => ∃ ns i, SqD μ2 d (ns.map Dv.int) ∧ z = .int i ∧ ∀ m, (ns = [] → m = i) → (ns ≠ [] → m ∈ ns ∧ ∀ y ∈ ns, y ≤ m) → k (.int m) μ2)
    (hg : Gl X "max" := by rfl)
    (he : backTo pos (starEach [e] X.env) = (false, eval e X.env) :: backTo pos (starEach [] X.env) := by rfl) (hpl : (backTo pos (starEach [e] X.env)).any (·.1) = false := by rfl)
    (hall : (backToKw pos (keywordEach [⟨some "default", f, kp⟩] X.env)).all (·.1.isSome) = true := by rfl) (hnone : (backToKw pos (keywordEach [⟨some "default", f, kp⟩] X.env)).any (·.1.isNone) = false := by rfl) (hks : (backToKw pos (keywordEach [⟨some "default", f, kp⟩] X.env)).filterMap (·.1) = [Str.ofString "default"] := by rfl)
    (hs : starEach [e] X.env = (false, eval e X.env) :: starEach [] X.env := by rfl) : JE X W KE (.Call (.Name "max" p) [e] [⟨some "default", f, kp⟩] pos) n μ k :=
  je_of (pe_callBK (call_maxDf c.calm) hg hm PyProof.Rows.boot_max paC (pk_cons peC pk_nil) (by decide) (by decide) he hpl hall hnone hks) fun σ H Q ev rp t q => by
    have h' : JA X W KE [e] n μ fun ds μ1 => ∃ d, ds = [d] ∧ JE X W KE f n μ1 fun z μ2 => ∃ ns i, SqD μ2 d (ns.map Dv.int) ∧ z = .int i ∧ ∀ m, (ns = [] → m = i) → (ns ≠ [] → m ∈ ns ∧ ∀ y ∈ ns, y ≤ m) → k (.int m) μ2 := ja_one (h.mono fun d μ1 z => ⟨d, rfl, z⟩) hs
    refine h' σ H _ ev rp t fun us ds H1 μ1 h1 s1 r1 dd => ?_
    obtain ⟨d, rfl, h1⟩ := h1
    cases dd with
    | cons d1 dn =>
      cases dn
      refine h1 σ H1 _ (ev.step s1) r1 (t.step s1) fun v z H2 μ2 h2 s2 r2 d2 => ?_
      obtain ⟨ns, i, l, rfl, hk⟩ := h2
      cases d2
      obtain ⟨a, vs, rfl, ha, ra⟩ := l.rep r2 (d1.step s2)
      have ei := ra.ints
      subst ei
      exact ⟨a, ns, i, rfl, rfl, ha, fun m z0 z1 => q _ _ _ _ (hk m z0 z1) (s1.trans s2) r2 (.int _)⟩
end
end DL

/-! ## the same objects, list() that stays mutable, a, b, c = e, not in -/
namespace DL
open PySem PySem.Spec L2
theorem InsD.ext {μ μ' : M} {d : Dv} {C : Addr} {fs : List (Str × Dv)} (h : InsD μ d C fs) (e : ExtM μ μ') : InsD μ' d C fs := by
  cases h with
  | ins => exact .ins _ _
  | obj h => exact .obj (e _ _ h)
/-- the same object -/
def DSame : Eqv := fun x y _ => ∃ a, x = .ref a ∧ y = .ref a
theorem mon_same : Mon DSame := fun _ _ _ _ _ d => d
theorem eqG_same {X : Cx} : EqG X 0 DSame := by
  intro A pins s σ H x y u v sb I rx ry d
  obtain ⟨a, rfl, rfl⟩ := d
  cases rx
  cases ry
  exact SeqAt.EqAt.same (A := A) (s := s) (.ref a) X.prog X.w X.xe _ ⟨rfl, H, I, Ext.rfl'⟩
def rSame : R2 := rEqG (DList DSame)
theorem op_same {X : Cx} (hr : Room 1 X.A) : OpR X (compareOp .Eq) rSame := op_eqG (rcG_list mon_same eqG_same) hr
theorem Step.ofExt {μ : M} {H H' : Hp} (e : Ext H H') : Step μ H μ H' := ⟨fun a o h n => ⟨e a o h, n⟩, fun a o kvs h n => ⟨e a o h, n⟩⟩
section
variable {X : Cx} {W : WX} {KE : XD} {e a b : Expr} {n : En} {μ : M} {k : DK} {pos : Pos} {kl : Nat} {K : Kf} {P : Ed}
theorem je_same (c : Cok kl X W) (hk : 1 ≤ kl) (h : JE X W KE a n μ fun x μ1 => JE X W KE b n μ1 fun y μ2 => DOp X.K rSame x y μ2 k) : JE X W KE (.Compare a [.Eq] [b] pos) n μ k := je_cmp (op_same (c.room.mono hk)) (nomark _) h
theorem Rep.ofExt {H H' : Hp} (r : Rep K μ H) (e : Ext H H') : Rep K μ H' := fun a o h => by
  have t := r a o h
  cases q : H a with
  | none => exact absurd q t.tracked
  | some u => exact t.step (Step.ofExt e) ((e a u q).trans q.symm)
theorem objs_refs {H : Hp} : ∀ {as : List Addr} {vs : List V}, DReps K μ H vs (as.map Dv.obj) → vs = as.map V.ref
  | [], _, h => by cases h; rfl
  | a :: as, _, h => by
    cases h with
    | cons h t =>
      cases h
      rw [objs_refs t]; rfl
theorem d_same {x y : Dv} {as : List Addr} (lx : LsE μ x (as.map Dv.obj)) (ly : LsE μ y (as.map Dv.obj)) (h : k (.bl true) μ) : DOp K rSame x y μ k := fun u v H Q r du dv t => by
  obtain ⟨a, vs, rfl, ha, ra⟩ := lx.rep r du
  obtain ⟨b, ws, rfl, hb, rb⟩ := ly.rep r dv
  obtain rfl := objs_refs ra
  obtain rfl := objs_refs rb
  refine ⟨⟨a, b, _, _, rfl, rfl, ha, hb, rfl, fun i p q h1 h2 => ?_⟩, fun H' e => ?_⟩
  · rw [h1] at h2
    cases h2
    rw [List.getElem?_map] at h1
    obtain ⟨z, _, rfl⟩ := Option.map_eq_some_iff.mp h1
    exact ⟨z, rfl, rfl⟩
  · exact t _ _ _ _ h (Step.ofExt e) (r.ofExt e) (.bl _)
/-- list(..) that stays mutable -/
theorem d_listM {x : Dv} {xs : List Dv} (l : SqD μ x xs) (h : ∀ p, μ p = none → k (.obj p) (updM μ p (.lst xs))) : DCl K (fun ys H Q => ∃ p zs, ys = [V.ref p] ∧ (SqL K H p zs ∨ SqT K H p zs) ∧ ∀ l, H l = none → Q (.ref l) (upd H l (.lst zs))) [x] μ k := fun us H Q r d t => by
  cases d with
  | cons d0 d1 =>
    cases d1
    obtain ⟨a, vs, rfl, ha, ra⟩ := l.rep r d0
    refine ⟨a, vs, rfl, .inl ha, fun p hp => ?_⟩
    have s2 : Step μ H (updM μ p (.lst xs)) (upd H p (.lst vs)) := Step.newM hp
    exact t _ _ _ _ (h p (r.free hp)) s2 (r.put s2 ⟨_, upd_same, ra.step s2⟩) (.obj p)
theorem je_notin (c : Cok kl X W) (h : JE X W KE a n μ fun x μ1 => JE X W KE b n μ1 fun y μ2 => DOp X.K (rNotInD X.K) x y μ2 k) (hm : behindInMarks .NotIn b = false := by rfl) : JE X W KE (.Compare a [.NotIn] [b] pos) n μ k := je_cmp (op_notInD (by have := c.room.un; omega)) hm h
theorem jt_notin {kb : Bool → M → Prop} (c : Cok kl X W) (h : JE X W KE a n μ fun x μ1 => JE X W KE b n μ1 fun y μ2 => DOp X.K (rNotInD X.K) x y μ2 (kB kb)) (hm : behindInMarks .NotIn b = false := by rfl) : JT X W KE (.Compare a [.NotIn] [b] pos) n μ kb := jt_cmp (op_notInD (by have := c.room.un; omega)) hm h
theorem d_notinE {α : Type} [DecidableEq α] (E : Enc α) (hn : E.n + 1 ≤ 64) {x : α} {xs : List α} {d e : Dv} (hd : d = E.dv x := by rfl) (he : e = .lst (xs.map E.dv) := by rfl) (h : k (.bl (!decide (x ∈ xs))) μ) : DOp K (rNotInD K) d e μ k := by
  subst hd; subst he
  intro u v H Q r du dv t
  exact ⟨E.py x, xs.map E.py, du.dp (E.toPy x), dv.dp (E.list.toPy xs), E.shaped (by omega) x, E.list.shaped hn xs, by rw [any_eqvE]; exact tl_pure t h r (.bl _)⟩
/-- a, b, c = e, e a tuple -/
theorem js_tup3 (i1 i2 i3 : Nat) {x1 x2 x3 : Str} {p1 p2 p3 p4 : Pos} {kk} (c : Cok kl X W) (h1 : X.N[i1]? = some x1) (h2 : X.N[i2]? = some x2) (h3 : X.N[i3]? = some x3)
    (h : JE X W KE e n μ fun d μ' => ∃ d1 d2 d3, d = .tup [d1, d2, d3] ∧ P.nx (((n.set i1 (some d1)).set i2 (some d2)).set i3 (some d3)) μ')
    (ht : PG X (.Tuple [.Name x1 p1, .Name x2 p2, .Name x3 p3] kk p4) (gTup X.K 3 (gCons (gName i1) (gCons (gName i2) (gCons (gName i3) gNil)))))
    (hs : swapsWithSole [.Tuple [.Name x1 p1, .Name x2 p2, .Name x3 p3] kk p4] e pos.line X.env = pure false := by rfl) (hw : swappedStores [.Tuple [.Name x1 p1, .Name x2 p2, .Name x3 p3] kk p4] e X.env = pure none := by rfl)
    (ha : (assignEach [.Tuple [.Name x1 p1, .Name x2 p2, .Name x3 p3] kk p4] X.env).map (·.2) = [assign (.Tuple [.Name x1 p1, .Name x2 p2, .Name x3 p3] kk p4) X.env] := by rfl) : JS X W KE (.Assign [.Tuple [.Name x1 p1, .Name x2 p2, .Name x3 p3] kk p4] e pos) n μ P :=
  js_of (ps_asg peC ht hs hw ha) fun σ H D ev rp t q => by
    refine h σ H _ ev rp t fun w d H1 μ1 h1 s1 r1 q1 => ?_
    obtain ⟨d1, d2, d3, rfl, hk⟩ := h1
    obtain ⟨a, vs, rfl, e1, fr⟩ := tup_rep q1
    cases fr with
    | cons f1 fr =>
      cases fr with
      | cons f2 fr =>
        cases fr with
        | cons f3 fr =>
        cases fr
        exact ⟨a, _, rfl, SqT.of e1, rfl, _, _, rfl, _, _, rfl, _, _, rfl, rfl, q.nx _ _ _ _ hk ((((ev.step s1).set f1 i1).set f2 i2).set f3 i3) s1 r1⟩
end
section
variable {X : Cx} {scope : Scope} {ifs : List Expr} {elt : Expr} {i : Nat} {n : En} {k : DK}
/-- a comprehension of new things that stays mutable -/
theorem lc_makeM {α : Type} (dv : α → Dv) (mk : α → MO) (xs : List α) {s : Src} {μ1 : M} (hs : s.items = xs.map dv) (hok : s.Ok μ1) (hl : xs.length < sizeLine)
    (h : ∀ (x : α) (μ' : M), x ∈ xs → ExtM μ1 μ' → LcTurn X scope ifs elt ((n.set i none).set i (some (dv x))) μ' fun o μ3 => ∃ a, o = some (.obj a) ∧ μ' a = none ∧ μ3 = updM μ' a (mk x))
    (hk : ∀ (p : Addr) (as : List Addr) (μ' : M), μ1 p = none → ExtM μ1 μ' → μ' p = some (.lst (as.map Dv.obj)) → as.length = xs.length → (∀ (j : Nat) (a : Addr) (x : α), as[j]? = some a → xs[j]? = some x → μ' a = some (mk x)) → (∀ a ∈ as, μ1 a = none) → k (.obj p) μ') : LcAll X scope ifs elt i n k s μ1 := fun p hp => by
  obtain ⟨Iv, h0, hok', ht, hend⟩ := lc_make (k := fun d μ' => ∃ as : List Addr, d = .lst (as.map Dv.obj) ∧ ExtM μ1 μ' ∧ as.length = xs.length ∧ (∀ (j : Nat) (a : Addr) (x : α), as[j]? = some a → xs[j]? = some x → μ' a = some (mk x)) ∧ ∀ a ∈ as, μ1 a = none) dv mk xs hs hok hl h
    (fun as μ' h1 h2 h3 _ h5 => ⟨as, rfl, h1, h2, h3, h5⟩) p hp
  refine ⟨Iv, h0, hok', ht, fun acc μ' iv => ?_⟩
  rcases hend acc μ' iv with ⟨as, e1, h1, h2, h3, h5⟩ | ⟨_, as, e1, _⟩
  · cases e1
    have hm := (hok' _ _ _ iv).2.1
    have un : ∀ a o, (delM μ' p) a = some o → μ' a = some o := fun a o e => by
      have ne : a ≠ p := fun z => by rw [z, delM_same] at e; cases e
      rw [delM_ne ne] at e; exact e
    exact .inr ⟨hm, hk p as μ' hp (fun a o e => un a o (h1 a o e)) hm h2 (fun j a x e1 e2 => un _ _ (h3 j a x e1 e2)) h5⟩
  · cases e1
end
end DL

/-! ## Exceptions made as values -/
namespace DL
open PySem PySem.Spec L2 PyProof.Rows
section
variable {X : Cx}
/-- x(e), an own exception class without its own __init__, as a value -/
theorem pe_exc1D {C : Addr} {bmB : List Value} {B newId initId : String} {x : Str} {e : Expr} {ta : TE} {p pos : Pos} (F : ExcBaseFacts B newId initId bmB) (q : PySem.W.excIn X.K C bmB newId = true) (gC : X.mg x = some (.ref C)) (kC : PySem.W.keepIn X.K (.ref C) = true) (hg : Gl X x)
    (he : PE X e ta) (hs : starEach [e] X.env = (false, eval e X.env) :: starEach [] X.env := by rfl) (hdb : (x == ("__debug__" : Str)) = false := by decide) :
    PE X (.Call (.Name x p) [e] [] pos) (fun σ H Q => ta σ H fun _ H1 => ∀ a, H1 a = none → Q (.ref a) (upd H1 a (ExD (.ref C) none a))) := by
  refine ⟨fun pins s σ H Q I h => ?_⟩
  refine wpAny_Call_Name_kw (ld_glob I hg gC ?_ hdb)
  refine PySem.W.callWith_K (h₀ := X.base) I.ok.mod.kin kC ?_ hs (by rfl)
  rw [hs]
  show wpAny _ _ (spliced ((false, eval e X.env) :: backTo pos (starEach [] X.env))) _ _ s
  refine Calls.spliced_cons (thn (he.run pins s σ H _ I h) fun u s1 ⟨v, H1, I1, r1, q1⟩ => ?_)
  refine Calls.spliced_nil ⟨I1.kIn, ?_⟩
  show wpAny _ _ (call (.ref C) [u]) _ _ _
  obtain ⟨bm, N, nm, qn, bs, hdct, sn, sub, ab, col, dd, k0, k1, k2, k3, k5, mN, hC, hN, hni, T⟩ := exc_obj I1.kIn q
  refine wpAny_call_exc_subT F T hC hN hni (fun h' a hm => ?_) (by show 1 ≤ sizeLine; rw [sizeLine_eq]; omega)
  have hn : H1 a = none := I1.hok.gone hm.new
  obtain ⟨t, ht, _, _⟩ := hm.there
  exact ⟨.ref a, upd H1 a (ExD (.ref C) none a), I1.laidN hm.keeps hm.new hn (exD_ok ht ⟨rfl, rfl⟩ rfl), rfl, q1 a hn⟩
/-- the end of C(e, ..), C with its own __init__: the exception stands as a tracked thing -/
theorem keep_end {pins : List (Addr × Obj)} {σ : L2.St} {H1 H2 : Hp} {hp hp2 h2 : Heap} {g1 g2 : Array GenState} {d1 d2 : Drawn} {t1 t2 : Nat} {os1 os2 : OsState} {a C d : Addr} {fs : List (Str × V)} (I1 : Inv X pins σ H1 ⟨hp, g1, d1, t1, os1⟩)
    (ha : hp.objs.size ≤ a) (k : ∀ b o, hp.get? b = some o → hp2.get? b = some o) (un : Un (frs X.stack) [] (upd H1 a (exo a C none)) H2 hp2 h2) (hok : HOk X.prog X.w H2 h2) (ho : os2 = os1) (hb : AllBare g2)
    (ea : H2 a = some (exo a C (some d))) (ed : H2 d = some (exd d fs)) (hd1 : H1 d = none) :
    Inv X pins σ (upd (upd H2 a (ExD (.ref C) (some d) a)) d (.xd fs)) ⟨h2, g2, d2, t2, os2⟩ := by
  obtain ⟨t0, hoe⟩ := exo_at hok ea
  obtain ⟨mA, hns, rel⟩ := exd_at hok ed
  have hn : H1 a = none := I1.hok.fresh ha
  have hda : d ≠ a := fun z => by
    obtain ⟨o, es, ep, e1, e2, _⟩ := hns
    rw [z, hoe] at e1
    have z2 := Option.some.inj e1
    subst z2
    cases e2
  have nha : ∀ {b : Addr} {o : Obj}, hp.get? b = some o → b ≠ a := fun {b o} z => Nat.ne_of_lt (Nat.lt_of_lt_of_le (Heap.lt_size z) ha)
  have up : ∀ {b : Addr}, b ≠ a → H1 b = none → upd H1 a (exo a C none) b = none := fun {b} hb n => by rw [upd_ne hb]; exact n
  have nd : ∀ {b : Addr} {o : Obj}, hp.get? b = some o → H1 b = none → b ≠ d := fun {b o} z n e => by
    have y := un.free b o (k b o z) (up (nha z) n) (by simp)
    rw [e, ed] at y
    cases y
  have U : Un (frs X.stack) [] H1 (upd (upd H2 a (ExD (.ref C) (some d) a)) d (.xd fs)) hp h2 := {
    keep := fun b o z n hf hx => un.keep b o (k b o z) (up (nha z) n) hf hx
    slot := fun b o z n hf hx => un.slot b o (k b o z) (up (nha z) n) hf hx
    free := fun b o z n hx => by
      rw [upd_ne (nd z n), upd_ne (nha z)]
      exact un.free b o (k b o z) (up (nha z) n) hx
    there := fun b o z hx => un.there b o (k b o z) hx
    tups := fun b xs z => by
      rw [upd_ne (ne_of_none z hd1), upd_ne (ne_of_none z hn)]
      exact un.tups b xs (by rw [upd_ne (ne_of_none z hn)]; exact z)
    frzs := fun b o v z => by
      rw [upd_ne (ne_of_none z hd1), upd_ne (ne_of_none z hn)]
      exact un.frzs b o v (by rw [upd_ne (ne_of_none z hn)]; exact z)
    tbls := fun b ps z => by
      rw [upd_ne (ne_of_none z hd1), upd_ne (ne_of_none z hn)]
      exact un.tbls b ps (by rw [upd_ne (ne_of_none z hn)]; exact z) }
  have hok3 : HOk X.prog X.w (upd (upd H2 a (ExD (.ref C) (some d) a)) d (.xd fs)) h2 := fun b o z => by
    by_cases hbd : b = d
    · subst hbd
      rw [upd_same] at z
      cases z
      exact ⟨mA, hns, rel⟩
    · rw [upd_ne hbd] at z
      by_cases hba : b = a
      · subst hba
        rw [upd_same] at z
        cases z
        exact ⟨⟨_, _, hoe, ⟨rfl, rfl⟩, rfl⟩, ⟨_, hoe⟩, fun _ _ ⟨o, v, q, r⟩ kk => ⟨o, v, kk o q, r⟩⟩
      · rw [upd_ne hba] at z
        have noa : ∀ {c : Addr}, H2 c = some (.own b) → c ≠ a := fun {c} hc => at_ne ea hc exo_own
        exact (hok b o z).stay (fun c v hc y => y)
          (fun c hc => by rw [upd_ne (at_ne ed hc exd_own), upd_ne (noa hc)]; exact hc) (fun c xs hc => by rw [upd_ne (at_ne ed hc exd_tup), upd_ne (at_ne ea hc exo_tup)]; exact hc)
  exact I1.call' (ch := []) ho U hok3 hb (fun b z => absurd z (by simp))
/-- C(e, ..) as a value, C's own __init__ keeping sp -/
def tVlO (C : Addr) (sp : Sp) (ta : TA) : TE := fun σ H Q => ta σ H fun vs H1 => vs.length ≤ 1000 ∧ ∀ a, H1 a = none → sp (.ref a :: vs) (upd H1 a (exo a C none))
  (fun v H2 => v = .non ∧ ∃ (d : Addr) (fs : List (Str × V)), H2 a = some (exo a C (some d)) ∧ H2 d = some (exd d fs) ∧ H1 d = none ∧ Q (.ref a) (upd (upd H2 a (ExD (.ref C) (some d) a)) d (.xd fs))) (fun _ _ _ => False)
theorem pe_oexV {CX : CXT} {x : Str} {C fI : Addr} {k : Nat} {fd : FuncData} {ps : List Str} {sp : Sp} {e : Expr} {es : List Expr} {ta : TA} {p pos : Pos} (T : OexC X.K C) (iC : PySem.W.findIn X.K (.ref C) "__init__" = some (some (.ref fI))) (tI : PySem.W.typeIn X.K (.ref fI) = some (.type "function"))
    (F1 : FnOk X.prog X.w X.K X.mg X.base CX k fI fd ps sp) (hr : Room (k + 1) X.A) (hb : Binds X.K fd ps []) (hx : Passes CX X (fun _ _ _ => False)) (hg : Gl X x) (hm : X.mg x = some (.ref C)) (ha : PA X (e :: es) ta)
    (hdb : (x == ("__debug__" : Str)) = false := by decide) (he : starEach (e :: es) X.env = (false, eval e X.env) :: starEach es X.env := by rfl) (hpl : (backTo pos (starEach es X.env)).any (·.1) = false := by rfl) :
    PE X (.Call (.Name x p) (e :: es) [] pos) (tVlO C sp ta) := by
  refine ⟨fun pins s σ H Q I h => ?_⟩
  obtain ⟨nm, q, N, bs, bm, sn, sub, ab, col, dd, k0, k1, k2, k3, k5, hC, hbm⟩ := T.cls
  refine wpAny_Call_Name_kw (ld_glob I hg hm ?_ hdb)
  refine PySem.W.callWith_K (h₀ := X.base) I.ok.mod.kin T.kC (thn (ha.run pos pins s σ H _ I h) fun us s1 ⟨vs, H1, I1, r1, hz, q1⟩ => ⟨I1.kIn, ?_⟩) he hpl
  show wpAny _ _ (call (.ref C) us) _ _ _
  obtain ⟨hp, g, dr, tk, os⟩ := s1
  have hsz : hp.objs.size ≤ hp.objs.size + 1 := Nat.le_succ _
  have hn : H1 (hp.objs.size + 1) = none := I1.hok.fresh hsz
  have hq := q1 (hp.objs.size + 1) hn
  have kk : ∀ b o, hp.get? b = some o → ((hp.push (PySem.W.kdv_tup us)).push (PySem.HandSPX.excO C hp.objs.size)).get? b = some o := fun b o e => Heap.get?_push_of_some _ (Heap.get?_push_of_some _ e)
  have hget : ((hp.push (PySem.W.kdv_tup us)).push (PySem.HandSPX.excO C hp.objs.size)).get? (hp.objs.size + 1) = some (PySem.HandSPX.excO C hp.objs.size) := by heap_get
  have I2 : Inv X pins σ (upd H1 (hp.objs.size + 1) (exo (hp.objs.size + 1) C none)) ⟨(hp.push (PySem.W.kdv_tup us)).push (PySem.HandSPX.excO C hp.objs.size), g, dr, tk, os⟩ :=
    I1.laid (t' := tk) (a := hp.objs.size + 1) (o := exo (hp.objs.size + 1) C none) (h' := (hp.push (PySem.W.kdv_tup us)).push (PySem.HandSPX.excO C hp.objs.size)) kk hsz (exo_ok hget)
  have r2 : Vals (V.ref (hp.objs.size + 1) :: vs) (Value.ref (hp.objs.size + 1) :: us) := .cons rfl r1
  have hl : (Value.ref (hp.objs.size + 1) :: us ++ []).length = ps.length := by
    have e := r2.length
    rw [F1.len _ _ _ _ hq] at e
    rw [List.append_nil]
    exact e.symm
  have hus : us.length ≤ sizeLine := by
    rw [← Paired.length r1, sizeLine_eq]
    omega
  refine wpAny_call (PySem.HandSPX.call_own PySem.F.excBase_ValueError (fun Y => PySem.HandSPX.refsVE_contains Y bm hbm) (I1.kIn _ _ hC) (PySem.W.looks_findIn I1.kIn iC) (fun self => PySem.W.bind_fn I1.kIn self tI) hus
    (codeAny_mono (F1.run _ X.stack _ _ ⟨Value.ref (hp.objs.size + 1) :: us, []⟩ (Value.ref (hp.objs.size + 1) :: us) _ _ (fun _ _ _ => False) (hr.make C us []) (I2.env0.make C us []) (by have z := hb _ (Value.ref (hp.objs.size + 1) :: us) I2.kIn hl; rw [List.append_nil] at z; exact z) r2 hq) fun r s' hq' => ?_))
  cases r with
  | error er => exact hx pins σ _ _ er s' I2 hq'
  | ok fl =>
    cases fl with
    | ret u =>
      obtain ⟨v, H2, os2, bare2, un2, hok2, rv, ev, d, fs, ea, ed, hd1, q2⟩ := hq'
      subst ev
      obtain ⟨h2, g2, d2, t2, os'⟩ := s'
      exact ⟨rv, .ref (hp.objs.size + 1), _, keep_end I1 hsz kk un2 hok2 os2 bare2 ea ed hd1, rfl, q2⟩
    | next => exact False.elim hq'
    | brk => exact False.elim hq'
    | cont => exact False.elim hq'
end
section
variable {X : Cx} {W : WX} {KE : XD} {e e1 e2 : Expr} {es : List Expr} {n : En} {μ : M} {k : DK} {P : Ed} {p pos pos' : Pos} {x f fld f1 f2 : Str} {kl j : Nat} {C : Addr}
theorem je_exc1 (c : Cok kl X W) (F : Xc X.K X.mg x C) (h : JE X W KE e n μ fun _ μ1 => k (.exc C []) μ1) (hg : Gl X x := by rfl) (hdb : (x == ("__debug__" : Str)) = false := by decide)
    (hs : starEach [e] X.env = (false, eval e X.env) :: starEach [] X.env := by rfl) : JE X W KE (.Call (.Name x p) [e] [] pos) n μ k :=
  je_of (pe_exc1D PySem.F.excBase_ValueError F.q F.g F.k hg peC hs hdb) fun σ H Q ev rp t q => by
    refine h σ H _ ev rp t fun v d H1 μ1 h1 s1 r1 d1 => fun a ha => ?_
    exact tl_new (q.step s1) h1 r1 ha (.exc0 upd_same (r1.free ha))
theorem exo_kept {H1 : Hp} {a dx : Addr} {o1 o2 o3 o4 o5 : HO} (ne : dx ≠ a) : upd (upd (upd (upd (upd H1 a o1) dx o2) a o3) a o4) dx o5 = upd (upd H1 a o4) dx o5 := by
  funext b
  by_cases z : b = dx
  · rw [z, upd_same, upd_same]
  · rw [upd_ne z, upd_ne z]
    by_cases y : b = a
    · rw [y, upd_same, upd_same]
    · rw [upd_ne y, upd_ne y, upd_ne z, upd_ne y, upd_ne y]
theorem exo_kept2 {H1 : Hp} {a dx : Addr} {o1 o2 o3 o4 o5 o6 : HO} (ne : dx ≠ a) : upd (upd (upd (upd (upd (upd H1 a o1) dx o2) a o3) dx o6) a o4) dx o5 = upd (upd H1 a o4) dx o5 := by
  funext b
  by_cases z : b = dx
  · rw [z, upd_same, upd_same]
  · rw [upd_ne z, upd_ne z]
    by_cases y : b = a
    · rw [y, upd_same, upd_same]
    · rw [upd_ne y, upd_ne y, upd_ne z, upd_ne y, upd_ne z, upd_ne y]
theorem je_excI1 (c : Cok kl X W) (F : DExI X.prog X.w X.K X.mg X.base j x C (sp1 fld C)) (hj : j + 1 ≤ kl) (h : JE X W KE e n μ fun d μ1 => k (.exc C [(fld, d)]) μ1) (hg : Gl X x := by rfl)
    (hdb : (x == ("__debug__" : Str)) = false := by decide) (hs : starEach [e] X.env = (false, eval e X.env) :: starEach [] X.env := by rfl) (hpl : (backTo pos (starEach [] X.env)).any (·.1) = false := by rfl) : JE X W KE (.Call (.Name x p) [e] [] pos) n μ k := by
  obtain ⟨fI, fd, ps, F1, hb, T⟩ := F.ex
  refine je_of (pe_oexV T.o T.i T.t F1 (c.room.mono hj) hb passF hg T.g paC hdb hs hpl) fun σ H Q ev rp t q => ?_
  have h' : JA X W KE [e] n μ fun ds μ1 => ∃ d, ds = [d] ∧ k (.exc C [(fld, d)]) μ1 := ja_one (h.mono fun d μ1 z => ⟨d, rfl, z⟩) hs
  refine h' σ H _ ev rp t fun vs ds H1 μ1 h1 s1 r1 dd => ?_
  obtain ⟨d, rfl, hk⟩ := h1
  cases dd with
  | cons d1 dn =>
    cases dn
    refine ⟨by simp, fun a ha => ⟨a, _, rfl, upd_same, fun dx hdx ne => ⟨rfl, dx, _, upd_same, (upd_ne ne).trans upd_same, by rw [upd_ne ne] at hdx; exact hdx, ?_⟩⟩⟩
    have hdx1 : H1 dx = none := by rw [upd_ne ne] at hdx; exact hdx
    rw [exo_kept ne]
    have sN : ∀ o, Step μ1 H1 μ1 (upd H1 a o) := fun o => Step.new ha
    have hdx2 : ∀ o, upd H1 a o dx = none := fun o => by rw [upd_ne ne]; exact hdx1
    have sM : ∀ o o2, Step μ1 (upd H1 a o) μ1 (upd (upd H1 a o) dx o2) := fun o o2 => Step.new (hdx2 o)
    exact q _ _ _ _ hk (s1.trans ((sN _).trans (sM _ _))) ((r1.new ha).new (hdx2 _)) (.exc1 ((upd_ne ne.symm).trans upd_same) (r1.free ha) upd_same (r1.free hdx1) (.cons (d1.step ((sN _).trans (sM _ _))) .nil))
theorem je_excI2 (c : Cok kl X W) (F : DExI X.prog X.w X.K X.mg X.base j x C (sp2 f1 f2 C)) (hj : j + 1 ≤ kl) (h : JE X W KE e1 n μ fun d μ1 => JE X W KE e2 n μ1 fun d2 μ2 => k (.exc C [(f2, d2), (f1, d)]) μ2) (hg : Gl X x := by rfl)
    (hdb : (x == ("__debug__" : Str)) = false := by decide) (hs : starEach [e1, e2] X.env = (false, eval e1 X.env) :: starEach [e2] X.env := by rfl) (hs2 : starEach [e2] X.env = (false, eval e2 X.env) :: starEach [] X.env := by rfl) (hpl : (backTo pos (starEach [e2] X.env)).any (·.1) = false := by rfl) : JE X W KE (.Call (.Name x p) [e1, e2] [] pos) n μ k := by
  obtain ⟨fI, fd, ps, F1, hb, T⟩ := F.ex
  refine je_of (pe_oexV T.o T.i T.t F1 (c.room.mono hj) hb passF hg T.g paC hdb hs hpl) fun σ H Q ev rp t q => ?_
  have h' : JA X W KE [e1, e2] n μ fun ds μ2 => ∃ d d2, ds = [d, d2] ∧ k (.exc C [(f2, d2), (f1, d)]) μ2 := ja_cons (h.mono fun d μ1 z => ja_one (z.mono fun d2 μ2 z2 => ⟨d, d2, rfl, z2⟩) hs2) hs
  refine h' σ H _ ev rp t fun vs ds H1 μ1 h1 s1 r1 dd => ?_
  obtain ⟨d, d2, rfl, hk⟩ := h1
  cases dd with
  | cons d1 dn =>
    cases dn with
    | cons d3 dn =>
    cases dn
    refine ⟨by simp, fun a ha => ⟨a, _, _, rfl, upd_same, fun dx hdx ne => ⟨rfl, dx, _, (upd_ne ne.symm).trans upd_same, upd_same, by rw [upd_ne ne] at hdx; exact hdx, ?_⟩⟩⟩
    have hdx1 : H1 dx = none := by rw [upd_ne ne] at hdx; exact hdx
    rw [exo_kept2 ne]
    have sN : ∀ o, Step μ1 H1 μ1 (upd H1 a o) := fun o => Step.new ha
    have hdx2 : ∀ o, upd H1 a o dx = none := fun o => by rw [upd_ne ne]; exact hdx1
    have sM : ∀ o o2, Step μ1 (upd H1 a o) μ1 (upd (upd H1 a o) dx o2) := fun o o2 => Step.new (hdx2 o)
    exact q _ _ _ _ hk (s1.trans ((sN _).trans (sM _ _))) ((r1.new ha).new (hdx2 _)) (.exc1 ((upd_ne ne.symm).trans upd_same) (r1.free ha) upd_same (r1.free hdx1) (.cons (d3.step ((sN _).trans (sM _ _))) (.cons (d1.step ((sN _).trans (sM _ _))) .nil)))
end
end DL

/-! ## sorted(set(xs)), xs a list of ints, any number of them below the library's bound -/
namespace DL
open PySem PySem.Spec L2 PyProof.Rows
/-- the new set -/
abbrev fso (w : World) : Obj := { cls := .type "set", dict := none, data := .set #[] 0 (.fresh 0 0 (!w.params.followText "set-order")) }
section
variable {P : Program} {w : World} {A : Around} {E : Value → Shared → Prop} {s : Shared}
/-- set(l), l a list of ints -/
theorem set_of_ints {l : Addr} {items : Array Value} (ns : List Int) {Q : Value → Shared → Prop} (hh : A.handled = none) (hl : s.heap.IsList l items) (hit : IntsAre items.toList ns) (hb : ns.length + 1 < scanBound)
    (h : ∀ (g : Heap) (tk c : Nat), SetR w g s.heap.objs.size (fun j => decide (j ∈ ns)) c → c ≤ ns.length → (∀ b o, s.heap.get? b = some o → g.get? b = some o) → Q (.ref s.heap.objs.size) { s with heap := g, toks := tk }) :
    wpAny (model P w) A (call (.type "set") [.ref l]) Q E s := by
  have len : items.size = ns.length := (Array.length_toList (xs := items)).symm.trans (IntsAre.length hit)
  obtain ⟨c, tl, hmro⟩ := F.called_set.mro
  obtain ⟨hmade, hsub⟩ := And.intro F.called_set.made F.called_set.sub
  refine wpAny_call (codeAny_of_tree (wpAny_pure ⟨Code.quiet_builtin _ (by decide +kernel), codeAny_builtin F.entry_type_call ?_⟩))
  rw [Around.under_plain (weight_type_call_type "set" [.ref l] []) rfl]
  obtain ⟨h1, h2, hct⟩ := And.intro F.called_set.notType (And.intro F.called_set.canCreate (F.typeCall_set_1 (.ref l)))
  repeat (any_goals (first | assumption | wp_step))
  refine codeAny_mono (code_set_led1 (.ref l) (E := E) (Q₁ := fun obj s₁ => obj = .ref s.heap.objs.size ∧ s₁ = { s with heap := s.heap.push (fso w) }) ⟨rfl, rfl⟩) fun r s₁ hr => ?_
  match r, hr with
  | .error e, hr => exact hr
  | .ok .next, hr => exact hr.elim
  | .ok .brk, hr => exact hr.elim
  | .ok .cont, hr => exact hr.elim
  | .ok (.ret obj), hr =>
    obtain ⟨rfl, rfl⟩ := hr
    have hS : (s.heap.push (fso w)).get? s.heap.objs.size = some (fso w) := Heap.get?_push_size _ rfl
    have hT : Shared.TypeIs { s with heap := s.heap.push (fso w) } (.ref s.heap.objs.size) "set" := ⟨_, hS, rfl⟩
    obtain ⟨hli, hbi⟩ := And.intro F.called_set.init.lookup (F.called_set.init.bind (.ref s.heap.objs.size))
    repeat (any_goals (first | assumption | wp_step))
    refine codeAny_mono (codeAny_call_builtin (R := wants (fun r s₂ => r = .none ∧ ∃ g tk c, s₂ = { s with heap := g, toks := tk } ∧ SetR w g s.heap.objs.size (fun j => decide (j ∈ ns)) c ∧ c ≤ ns.length ∧
        (∀ b o, s.heap.get? b = some o → g.get? b = some o)) E) F.called_set.init.plain F.entry_set_init (check_set_init_1 hT ?_)) fun r₂ s₂ hr₂ => ?_
    · obtain ⟨⟨oc, od, oda, os⟩, hol, hcl, nl, hdl⟩ := hl
      simp only at hcl hdl
      subst hcl; subst hdl
      have hol' : (s.heap.push (fso w)).get? l = some { cls := .type "list", dict := od, data := .seq items nl, slots := os } := Heap.get?_push_of_some _ hol
      obtain ⟨hsls, hslf⟩ := And.intro F.sub_list_set F.sub_list_frozenset
      have hne : (Value.type "list" == Value.type "dict") = false := by decide
      have hl1 : (s.heap.push (fso w)).IsList l items := ⟨_, hol', rfl, nl, rfl⟩
      unfold Builtin.«set.__init__» noKeywords Builtin.Frozenset.updateFrom
      generalize hPI : pyIter = PI
      wp_walk
      subst hPI
      refine wpAny_pyIter_list hl1 (wpAny_bind (wpAny_runValue ?_))
      have hlS : l < s.heap.objs.size := Heap.lt_size hol
      have hz1 : (s.heap.push (fso w)).objs.size = s.heap.objs.size + 1 := Heap.size_push ..
      have apart : l ≠ (s.heap.push (fso w)).objs.size := by rw [hz1]; exact Nat.ne_of_lt (Nat.lt_succ_of_lt hlS)
      have out : s.heap.objs.size ∉ [(s.heap.push (fso w)).objs.size, l] := fun z => by
        rw [hz1] at z
        rcases List.mem_cons.mp z with z | z
        · exact Nat.ne_of_lt (Nat.lt_succ_self _) z
        · exact Nat.ne_of_gt hlS (List.mem_singleton.mp z)
      have item : ∀ (i : Nat) (v : Value), items[i]? = some v → ∃ k t, ns[i]? = some k ∧ v = .int k t := fun i v hv => by
        obtain ⟨t, e⟩ := PyProof.Rows.IntsAre.int_at hit i v (by rw [Array.getElem?_toList]; exact hv)
        have hi : i < ns.length := len ▸ (Array.getElem?_eq_some_iff.mp hv).1
        exact ⟨ns[i], t, List.getElem?_eq_getElem hi, by rw [e, List.getD_eq_getElem?_getD, List.getElem?_eq_getElem hi] <;> rfl⟩
      refine set_update_ints ((Walks.list (show A.in1.in1.in1.handled = none by simp [hh]) _ l apart items).toS) s.heap.objs.size out ns len hb item (items.size - 0) 0 _ (by omega) (Nat.zero_le _)
        ⟨⟨_, Heap.get?_push_size _ rfl, rfl, rfl⟩, hl1.push _⟩ ⟨0, Nat.le_refl 0, setR_new_at (Heap.get?_push_of_some _ hS)⟩ fun s' c' hm hc' hS' => ?_
      obtain ⟨h', g2, d', tk', os'⟩ := s'
      obtain rfl : g2 = s.gens := hm.gens
      obtain rfl : d' = s.drawn := hm.drawn
      obtain rfl : os' = s.os := hm.os
      show wpAny _ _ _ _ _ _
      refine wpAny_pure ?_
      show wpAny _ _ (ret Value.none) _ _ _
      refine wpAny_pure ⟨rfl, h', tk', c', rfl, hS', len ▸ hc', fun b o e => ?_⟩
      have hb0 : b < s.heap.objs.size := Heap.lt_size e
      refine hm.heap b o (fun z => ?_) (Heap.get?_push_of_some _ (Heap.get?_push_of_some _ e))
      rw [hz1] at z
      rcases List.mem_cons.mp z with z | z
      · exact Nat.ne_of_lt hb0 z
      · exact Nat.ne_of_lt (Nat.lt_succ_of_lt hb0) (List.mem_singleton.mp z)
    · match r₂, hr₂ with
      | .error e, hr₂ => exact hr₂
      | .ok .next, hr₂ => exact hr₂.elim
      | .ok .brk, hr₂ => exact hr₂.elim
      | .ok .cont, hr₂ => exact hr₂.elim
      | .ok (.ret r), hr₂ =>
        obtain ⟨rfl, g, tk, c', rfl, hS', hc', hk'⟩ := hr₂
        repeat (any_goals (first | assumption | wp_step))
        exact h _ _ _ hS' hc' hk'
theorem rawIs {l : List Value} (h : ∀ v ∈ l, ∃ k tk, v = Value.int k tk) : IntsAre l (l.map SrtO.iv) := by
  induction l with
  | nil => exact .nil
  | cons v r ih =>
    obtain ⟨k, tk, rfl⟩ := h v List.mem_cons_self
    exact .cons k tk (ih fun u hu => h u (List.mem_cons_of_mem _ hu))
/-- sorted(a), a a set of ints, any number of them -/
theorem sorted_ints_set {a : Addr} {S : Int → Bool} {n : Nat} {Q : Value → Shared → Prop} (R : SetR w s.heap a S n) (hh : A.handled = none)
    (hQ : ∀ s' p (out : Array Value) (c : Nat) (ns : List Int), (∀ b o, s.heap.get? b = some o → s'.heap.get? b = some o) → s'.gens = s.gens → s'.os = s.os → s.heap.objs.size ≤ p →
      s'.heap.get? p = some (seqObj "list" out c) → IntsAre out.toList ns → ns.Pairwise (· < ·) → (∀ k, k ∈ ns ↔ S k = true) → ns.length = n → Q (.ref p) s') :
    wpAny (model P w) A (call (.builtin "sorted") [.ref a]) Q E s := by
  obtain ⟨o, es, ep, t, ho, hex, hd, g, nd, hm, hb, hf, hn, hr, hl⟩ := R
  refine Calls.call_function_entry kind_sorted plain_sorted entry_sorted (args_sorted1 _) ?_
  unfold Builtin.«sorted»
  refine wpAny_bind (m := checkCount "sorted" 1 1 _) (wpAny_pure (wpAny_bind (collect_set (A := A.in1) hh ⟨o, ho, hex.1, hd⟩ hf hb hr hl fun s1 vs k1 hz g1 o1 pm => ?_)))
  have cnt : vs.length = n := pm.length_eq.trans (by rw [List.length_map, Array.length_toList]; exact hn)
  have line : vs.length ≤ sizeLine := by
    have : n < scanBound := hn ▸ hb
    unfold scanBound at this
    rw [cnt, sizeLine_eq]; omega
  have hI : IntsAre vs (vs.map SrtO.iv) := rawIs fun v hv => by
    obtain ⟨e, he, rfl⟩ := List.mem_map.mp (pm.mem_iff.mp hv)
    obtain ⟨k, tk, q, _⟩ := g e he
    exact ⟨k, tk, q⟩
  have pk : (vs.map SrtO.iv).Perm (es.toList.map keyOf) := by
    refine (pm.map SrtO.iv).trans (List.Perm.of_eq ?_)
    rw [List.map_map]
    refine List.map_congr_left fun e he => ?_
    obtain ⟨k, tk, q, _⟩ := g e he
    show SrtO.iv e.2 = keyOf e
    unfold keyOf
    rw [q] <;> rfl
  refine wpAny_bind (wpAny_newList ?_ line)
  have hoL : (s1.heap.push (seqObj "list" vs.toArray 0)).get? s1.heap.objs.size = some (seqObj "list" vs.toArray 0) := Heap.get?_push_size _ rfl
  refine wpAny_bind (wpAny_holding (wpAny_call_entry slot_list_sort ⟨_, hoL, rfl⟩ entry_list_sort (SrtO.list_sort_ord SrtO.swo_int hoL line (fun h2 => SrtO.ints_sortable hI h2) fun out a1 a2 => ⟨_, rfl, ?_⟩) (args_list_sort _)))
  obtain ⟨i1, i2, i3⟩ := SrtO.ints_out hI a1 a2
  obtain ⟨c, hc⟩ := sortedHeap_at (vs := vs) (out := out.toArray) hoL
  have pn := i2.trans pk
  refine wpAny_pure ⟨_, rfl, hQ _ s1.heap.objs.size out.toArray c _ (fun b u e => ?_) g1 o1 hz hc i1 (lt_of_le_nodup _ i3 (pn.nodup_iff.mpr nd)) (fun k => by rw [pn.mem_iff, ← hm k]) (pn.length_eq.trans (by rw [List.length_map, Array.length_toList]; exact hn))⟩
  have q := k1 b u e
  have lt := Heap.lt_size q
  exact (sortedHeap_old (Nat.ne_of_lt lt) (by rw [size_push']; exact Nat.lt_succ_of_lt lt)).trans (Heap.get?_push_of_some _ q)
end
section
variable {X : Cx}
/-- the rule of set(xs) -/
def rSetI (K : Kf) (w : World) : List V → Hp → VK → Prop := fun xs H Q => ∃ (l : Addr) (ns : List Int), xs = [V.ref l] ∧ SqL K H l (ns.map V.int) ∧ ns.length + 1 < scanBound ∧
  ∀ a c, H a = none → c ≤ ns.length → Q (.ref a) (upd H a (SetO w a (fun j => decide (j ∈ ns)) c))
theorem cr_setI (hc : X.calm = true) : CallR X (.type "set") (rSetI X.K X.w) := by
  intro pins s σ H xs us Q I r h
  obtain ⟨l, ns, rfl, hl, hb, q⟩ := h
  rw [Vals.ref1 r]
  obtain ⟨its, rv, pl, hz⟩ := I.list hl
  have hn : H s.heap.objs.size = none := I.hok.fresh (Nat.le_refl _)
  refine set_of_ints (P := X.prog) (w := X.w) ns (I.ok.hd hc) pl.isList (by simpa using rv.ints) hb fun g tk c R hc' k => ?_
  exact ⟨.ref s.heap.objs.size, _, I.laid (t' := tk) k (Nat.le_refl _) (setO_new R), rfl, q _ c hn hc'⟩
/-- the rule of sorted(set) -/
def rSrtSetI (w : World) : List V → Hp → VK → Prop := fun vs H Q => ∃ (a : Addr) (S : Int → Bool) (n : Nat), vs = [V.ref a] ∧ H a = some (SetO w a S n) ∧ n < scanBound ∧
  ∀ (ns : List Int) (p : Addr), ns.Pairwise (· < ·) → (∀ k : Int, k ∈ ns ↔ S k = true) → H p = none → Q (.ref p) (upd H p (.lst (ns.map V.int)))
theorem cr_srtSetI (hc : X.calm = true) : CallR X (.builtin "sorted") (rSrtSetI X.w) := by
  intro pins s σ H vs us Q I r h
  obtain ⟨a, S, n, rfl, ha, hb, q⟩ := h
  rw [Vals.ref1 r]
  refine sorted_ints_set (setO_get I ha) (I.ok.hd hc) fun s' p out c ns k g o hp hg hi hs hm hl => ?_
  have len : (ns.map V.int).length ≤ sizeLine := by
    unfold scanBound at hb
    rw [List.length_map, hl, sizeLine_eq]; omega
  have hn : H p = none := I.hok.fresh hp
  have J : Inv X pins σ (upd H p (.lst (ns.map V.int))) { s with heap := s'.heap, gens := s'.gens, drawn := s'.drawn, toks := s'.toks } :=
    I.call (ch := []) (Un.laid k hp hn) (I.hok.laid k hp ⟨len, out.toList, c, vals_of_ints hi, hg⟩) (by rw [g]; exact I.bare) (fun _ z => nomatch z)
  have e : s' = { s with heap := s'.heap, gens := s'.gens, drawn := s'.drawn, toks := s'.toks } := by
    cases s'
    cases s
    cases o
    rfl
  rw [e]
  exact ⟨.ref p, _, J, rfl, q ns p hs hm hn⟩
end
section
variable {X : Cx} {W : WX} {KE : XD} {e : Expr} {n : En} {μ : M} {k : DK} {p pos p2 pos2 : Pos} {kl : Nat}
/-- sorted(set(xs)) -/
theorem je_sortset (c : Cok kl X W) (m1 : X.mg "sorted" = none) (m2 : X.mg "set" = none) (h : JE X W KE e n μ fun d μ1 => ∃ ns : List Int, SqD μ1 d (ns.map Dv.int) ∧ ns.length + 1 < scanBound ∧
      ∀ ms : List Int, ms.Pairwise (· < ·) → (∀ i, i ∈ ms ↔ i ∈ ns) → k (.lst (ms.map Dv.int)) μ1)
    (g1 : Gl X "sorted" := by rfl) (g2 : Gl X "set" := by rfl) (hs : starEach [e] X.env = (false, eval e X.env) :: starEach [] X.env := by rfl) : JE X W KE (.Call (.Name "sorted" p) [.Call (.Name "set" p2) [e] [] pos2] [] pos) n μ k :=
  je_of (pe_callB (cr_srtSetI c.calm) g1 m1 PyProof.Rows.boot_sorted (pa_cons (pe_callTy (cr_setI c.calm) g2 m2 PyProof.Rows.boot_set (paC (es := [e]) ) (by decide) (by decide) hs rfl) pa_nil rfl) (by decide) (by decide) rfl rfl) fun σ H Q ev rp t q => by
    have h' : JA X W KE [e] n μ fun ds μ1 => ∃ d, ds = [d] ∧ ∃ ns : List Int, SqD μ1 d (ns.map Dv.int) ∧ ns.length + 1 < scanBound ∧ ∀ ms : List Int, ms.Pairwise (· < ·) → (∀ i, i ∈ ms ↔ i ∈ ns) → k (.lst (ms.map Dv.int)) μ1 := ja_one (h.mono fun d μ1 z => ⟨d, rfl, z⟩) hs
    refine h' σ H _ ev rp t fun us ds H1 μ1 h1 s1 r1 dd => ?_
    obtain ⟨d, rfl, ns, sq, hb, hk⟩ := h1
    cases dd with
    | cons d0 dn =>
      cases dn
      obtain ⟨a, vs, rfl, ha, ra⟩ := sq.rep r1 d0
      have e := ra.ints
      subst e
      refine ⟨a, ns, rfl, ha, hb, fun b cc hn hc => ?_⟩
      refine ⟨b, _, cc, rfl, upd_same, by omega, fun ms p hs hm hp => ?_⟩
      have s2 : Step μ1 H1 μ1 (upd H1 b (SetO X.w b (fun j => decide (j ∈ ns)) cc)) := Step.new hn
      exact tl_new (q.step (s1.trans s2)) (hk ms hs fun i => (hm i).trans ⟨of_decide_eq_true, decide_eq_true⟩) (r1.new hn) hp (.lst upd_same ((r1.new hn).free hp) (.ofInts ms))
end
end DL

/-! ## Texts -/
namespace DL
open PySem PySem.Spec L2
/-- texts of signs that there are -/
abbrev Tx := { x : Str // PyData.strOk x = true }
def Enc.tx : Enc Tx := ⟨fun x => Dv.str x.1, fun x => PyData.str x.1, 0, fun _ => by unfold DL.toPy; rfl, fun x => by unfold PyData.canLay0; exact x.2, fun _ => by unfold PyData.depth; exact Nat.le_refl _, fun x y => by
  unfold PyData.eqv
  by_cases e : x = y
  · subst e; simp
  · rw [decide_eq_false e]
    simpa using fun z => e (Subtype.ext z)⟩
theorem tx_lift : ∀ {xs : List Str}, (∀ x ∈ xs, PyData.strOk x = true) → ∃ ts : List Tx, xs = ts.map (·.1)
  | [], _ => ⟨[], rfl⟩
  | x :: r, h => by
    obtain ⟨ts, e⟩ := tx_lift (xs := r) fun y hy => h y (List.mem_cons_of_mem _ hy)
    exact ⟨⟨x, h x List.mem_cons_self⟩ :: ts, congrArg (x :: ·) e⟩
theorem tx_inj : ∀ {ts us : List Tx}, ts.map (·.1) = us.map (·.1) → ts = us
  | [], [], _ => rfl
  | [], _ :: _, h => by cases h
  | _ :: _, [], h => by cases h
  | t :: ts, u :: us, h => by
    injection h with h1 h2
    rw [Subtype.ext h1, tx_inj h2]
theorem tx_dv (ts : List Tx) : (ts.map (·.1)).map Dv.str = ts.map Enc.tx.dv := by rw [List.map_map]; rfl
theorem tx_dec (ts us : List Tx) : decide (ts = us) = decide (ts.map (·.1) = us.map (·.1)) := decide_eq_decide.mpr ⟨fun h => by rw [h], tx_inj⟩
section
variable {K : Kf} {μ : M} {k : DK}
theorem d_neStrs {x y : Dv} (xs ys : List Str) (lx : SqD μ x (xs.map Dv.str)) (ly : SqD μ y (ys.map Dv.str)) (hx : ∀ z ∈ xs, PyData.strOk z = true) (hy : ∀ z ∈ ys, PyData.strOk z = true) (h : k (.bl (!decide (xs = ys))) μ) : DOp K (rNeA K) x y μ k := by
  obtain ⟨ts, rfl⟩ := tx_lift hx
  obtain ⟨us, rfl⟩ := tx_lift hy
  rw [tx_dv] at lx ly
  exact d_neSE Enc.tx (by decide) lx ly (by rw [tx_dec]; exact h)
theorem d_eqStrs {x y : Dv} (xs ys : List Str) (lx : SqD μ x (xs.map Dv.str)) (ly : SqD μ y (ys.map Dv.str)) (hx : ∀ z ∈ xs, PyData.strOk z = true) (hy : ∀ z ∈ ys, PyData.strOk z = true) (h : k (.bl (decide (xs = ys))) μ) : DOp K (rEqA K) x y μ k := by
  obtain ⟨ts, rfl⟩ := tx_lift hx
  obtain ⟨us, rfl⟩ := tx_lift hy
  rw [tx_dv] at lx ly
  exact d_eqSE Enc.tx (by decide) lx ly (by rw [tx_dec]; exact h)
theorem d_indexStr {d : Dv} {x : Str} {xs : List Str} {j : Nat} (l : SqD μ d (xs.map Dv.str)) (hx : ∀ z ∈ xs, PyData.strOk z = true) (hj : xs[j]? = some x) (hm : ∀ (m : Nat) (z : Str), m < j → xs[m]? = some z → z ≠ x) (h : k (.int (j : Nat)) μ) : DMd K (rIndexD K) d [.str x] μ k := by
  obtain ⟨ts, rfl⟩ := tx_lift hx
  rw [tx_dv] at l
  rw [List.getElem?_map] at hj
  obtain ⟨t, ht, rfl⟩ := Option.map_eq_some_iff.mp hj
  exact d_indexE Enc.tx (by decide) l ht (fun m z h1 h2 e => hm m z.1 h1 (by rw [List.getElem?_map, h2]; rfl) (by rw [e])) rfl h
end
/-- the text of a whole number -/
def numS (i : Int) : Str := Str.ofString (toString i)
theorem any_eqV (z : Str) : ∀ ys : List Str, inV (.str z) (ys.map V.str) = decide (z ∈ ys)
  | [] => rfl
  | y :: ys => by
    have ih := any_eqV z ys
    unfold inV at ih ⊢
    rw [List.map_cons, List.any_cons, ih]
    show ((y == z) || decide (z ∈ ys)) = decide (z ∈ y :: ys)
    by_cases e : z = y
    · subst e; simp
    · have : (y == z) = false := by simpa using fun q => e q.symm
      rw [this]
      simp [e]
theorem all_flat : ∀ ys : List Str, (ys.map V.str).all flatV = true
  | [] => rfl
  | _ :: ys => all_flat ys
section
variable {X : Cx} {W : WX} {KE : XD} {a b c e o : Expr} {rest es : List Expr} {n : En} {μ : M} {k : DK} {pos apos cpos p p1 p2 : Pos} {K : Kf} {kl : Nat} {kb : Bool → M → Prop}
/-! in a tuple of texts -/
theorem je_inT (h : JE X W KE a n μ fun x μ1 => JE X W KE b n μ1 fun y μ2 => DOp X.K (rIn X.K false) x y μ2 k) (hm : behindInMarks .In b = false := by rfl) : JE X W KE (.Compare a [.In] [b] pos) n μ k := je_cmp op_in_seq hm h
theorem jt_inT (h : JE X W KE a n μ fun x μ1 => JE X W KE b n μ1 fun y μ2 => DOp X.K (rIn X.K false) x y μ2 (kB kb)) (hm : behindInMarks .In b = false := by rfl) : JT X W KE (.Compare a [.In] [b] pos) n μ kb := jt_cmp op_in_seq hm h
theorem je_notinT (h : JE X W KE a n μ fun x μ1 => JE X W KE b n μ1 fun y μ2 => DOp X.K (rIn X.K true) x y μ2 k) (hm : behindInMarks .NotIn b = false := by rfl) : JE X W KE (.Compare a [.NotIn] [b] pos) n μ k := je_cmp op_notIn_seq hm h
theorem jt_notinT (h : JE X W KE a n μ fun x μ1 => JE X W KE b n μ1 fun y μ2 => DOp X.K (rIn X.K true) x y μ2 (kB kb)) (hm : behindInMarks .NotIn b = false := by rfl) : JT X W KE (.Compare a [.NotIn] [b] pos) n μ kb := jt_cmp op_notIn_seq hm h
theorem d_inT (ys : List Str) {z : Str} {d : Dv} (hd : d = .tup (ys.map Dv.str) := by rfl) (h : k (.bl (decide (z ∈ ys))) μ) : DOp K (rIn K false) (.str z) d μ k := fun u v H Q r du dv t => by
  subst hd
  cases du
  obtain ⟨q, vs, rfl, hq, rq⟩ := tup_rep dv
  obtain rfl := rq.strs
  refine ⟨q, _, rfl, .inr (SqT.of hq), rfl, all_flat ys, ?_⟩
  rw [if_neg Bool.false_ne_true, any_eqV]
  exact tl_pure t h r (.bl _)
theorem d_notinT (ys : List Str) {z : Str} {d : Dv} (hd : d = .tup (ys.map Dv.str) := by rfl) (h : k (.bl (!decide (z ∈ ys))) μ) : DOp K (rIn K true) (.str z) d μ k := fun u v H Q r du dv t => by
  subst hd
  cases du
  obtain ⟨q, vs, rfl, hq, rq⟩ := tup_rep dv
  obtain rfl := rq.strs
  refine ⟨q, _, rfl, .inr (SqT.of hq), rfl, all_flat ys, ?_⟩
  rw [if_pos rfl, any_eqV]
  exact tl_pure t h r (.bl _)
/-! str(int), int(text) -/
theorem d_strI {i : Int} (hl : i.natAbs.log2 < 1920) (h : k (.str (numS i)) μ) : DCl K (fun xs H Q => ∃ i : Int, xs = [V.int i] ∧ i.natAbs.log2 < 1920 ∧ Q (.str (toString i)) H) [.int i] μ k := fun us H Q r d t => by
  cases d with
  | cons d0 dn =>
    cases dn; cases d0
    exact ⟨i, rfl, hl, tl_pure t h r (.str _)⟩
theorem d_intT {z : Str} {i : Int} (e : PySem.intText? z = some i) (hl : z.length ≤ 640) (h : k (.int i) μ) : DCl K (fun xs H Q => ∃ a n, xs = [V.str a] ∧ PySem.intText? a = some n ∧ a.length ≤ 640 ∧ Q (.int n) H) [.str z] μ k := fun us H Q r d t => by
  cases d with
  | cons d0 dn =>
    cases dn; cases d0
    exact ⟨z, i, rfl, e, hl, tl_pure t h r (.int _)⟩
/-! split, join -/
def rSplitS : V → List V → Hp → VK → Prop := fun x xs H Q => ∃ a b, x = .str a ∧ xs = [.str b] ∧ (b.length == 0) = false ∧ a.length + 2 ≤ sizeLine ∧ rNewStrs (Txt.split a b) H Q
theorem je_split (h : JE X W KE o n μ fun x μ1 => DTy X.K "str" x μ1 ∧ JA X W KE (e :: es) n μ1 fun ds μ2 => DMd X.K rSplitS x ds μ2 k)
    (hbase : attributeBase o "split" X.env (eval o X.env) = eval o X.env := by rfl)
    (hfew : ((backTo cpos (starEach (e :: es) X.env)).all (fun x => !x.1) && (backToKw cpos (keywordEach [] X.env)).all (fun x => x.1.isSome)
      && decide ((e :: es).length + ([] : List Keyword).length + (if ([] : List Keyword).isEmpty then 0 else 1) < 30)) = true := by rfl)
    (hline : (apos.endLine == cpos.line) = true := by rfl) (hs : starEach (e :: es) X.env = (false, eval e X.env) :: starEach es X.env := by rfl) (hplain : (backTo cpos (starEach es X.env)).any (·.1) = false := by rfl) :
    JE X W KE (.Call (.Attribute o "split" apos) (e :: es) [] cpos) n μ k := je_bm F.plainAttrs_str F.slot_str_split F.type_str_split mt_split h hbase hfew hline hs hplain
theorem d_split {a b : Str} (hb : (b.length == 0) = false) (hz : a.length + 2 ≤ sizeLine) (h : k (.lst ((Txt.split a b).map Dv.str)) μ) : DMd K rSplitS (.str a) [.str b] μ k := fun u us H Q rp d ds t => by
  cases d
  cases ds with
  | cons d0 dn =>
    cases dn; cases d0
    exact ⟨a, b, rfl, rfl, hb, hz, fun q hq => tl_new t h rp hq (.lst upd_same (rp.free hq) (.ofStrs _))⟩
def rJoinS (K : Kf) : V → List V → Hp → VK → Prop := fun x xs H Q => ∃ a p, ∃ ys : List Str, x = .str a ∧ xs = [.ref p] ∧ (SqL K H p (ys.map V.str) ∨ SqT K H p (ys.map V.str)) ∧
    (ys.map (·.length)).sum + ys.length * a.length ≤ 16777216 ∧ Q (.str (Txt.join a ys)) H
theorem je_join (h : JE X W KE o n μ fun x μ1 => DTy X.K "str" x μ1 ∧ JA X W KE (e :: es) n μ1 fun ds μ2 => DMd X.K (rJoinS X.K) x ds μ2 k)
    (hbase : attributeBase o "join" X.env (eval o X.env) = eval o X.env := by rfl)
    (hfew : ((backTo cpos (starEach (e :: es) X.env)).all (fun x => !x.1) && (backToKw cpos (keywordEach [] X.env)).all (fun x => x.1.isSome)
      && decide ((e :: es).length + ([] : List Keyword).length + (if ([] : List Keyword).isEmpty then 0 else 1) < 30)) = true := by rfl)
    (hline : (apos.endLine == cpos.line) = true := by rfl) (hs : starEach (e :: es) X.env = (false, eval e X.env) :: starEach es X.env := by rfl) (hplain : (backTo cpos (starEach es X.env)).any (·.1) = false := by rfl) :
    JE X W KE (.Call (.Attribute o "join" apos) (e :: es) [] cpos) n μ k := je_bm F.plainAttrs_str F.slot_str_join F.type_str_join mt_join h hbase hfew hline hs hplain
theorem d_join {a : Str} (ys : List Str) {x : Dv} (l : SqD μ x (ys.map Dv.str)) (hz : (ys.map (·.length)).sum + ys.length * a.length ≤ 16777216) (h : k (.str (Txt.join a ys)) μ) : DMd K (rJoinS K) (.str a) [x] μ k := fun u us H Q rp d ds t => by
  cases d
  cases ds with
  | cons d0 dn =>
    cases dn
    obtain ⟨q, vs, rfl, hq, rq⟩ := l.rep rp d0
    obtain rfl := rq.strs
    exact ⟨a, q, ys, rfl, rfl, .inl hq, hz, tl_pure t h rp (.str _)⟩
/-- x or y, x a text -/
theorem je_orS (h : JE X W KE a n μ fun x μ1 => ∃ z : Str, x = .str z ∧ z.length ≤ sizeLine ∧ (z.length ≠ 0 → k (.str z) μ1) ∧ (z.length = 0 → JE X W KE (.BoolOp .Or (b :: rest) pos) n μ1 k)) : JE X W KE (.BoolOp .Or (a :: b :: rest) pos) n μ k :=
  je_of (pe_orT peC peC) fun σ H Q ev rp t q => by
    refine h σ H _ ev rp t fun u x H1 μ1 h1 s1 r1 d1 => ?_
    obtain ⟨z, rfl, hz, h2, h3⟩ := h1
    cases d1
    refine ⟨_, ⟨hz, rfl⟩, ?_⟩
    by_cases e : z.length = 0
    · have : ((z.length : Int) != 0) = false := by rw [e]; rfl
      rw [if_neg (by rw [this]; exact Bool.false_ne_true)]
      exact h3 e σ H1 Q (ev.step s1) r1 (t.step s1) (q.step s1)
    · have : ((z.length : Int) != 0) = true := by simpa using e
      rw [if_pos this]
      exact tl_pure (q.step s1) (h2 e) r1 (.str _)
/-- a display of a dict with two texts as keys -/
theorem je_dict2 {k1 k2 : Str} {v1 v2 : Expr} {j1 j2 : Nat} (hne : ¬ (k1 = k2)) (h : ∀ q, μ q = none → JE X W KE v1 n (updM μ q (.dic [])) fun d1 μ1 => JE X W KE v2 n μ1 fun d2 μ2 => μ2 q = some (.dic []) ∧ k (.obj q) (updM μ2 q (.dic [(.inr k1, d1), (.inr k2, d2)]))) :
    JE X W KE (.Dict [some (.Constant (.str k1) j1 p1), some (.Constant (.str k2) j2 p2)] [v1, v2] pos) n μ k :=
  je_of (pe_disp (pps_cons pe_str peC (pps_cons pe_str peC pps_nil)) rfl rfl (by simp) (by show 2 ≤ 15; omega)) fun σ H Q ev rp t q => by
    intro x hx
    have s1 : Step μ H (updM μ x (.dic [])) (upd H x (.dK [])) := Step.newM hx
    have r1 : Rep X.K (updM μ x (.dic [])) (upd H x (.dK [])) := rp.put s1 ⟨[], upd_same, .nil⟩
    refine h x (rp.free hx) σ _ _ (ev.step s1) r1 (t.step s1) fun u1 d1 H1 μ1 h1 s2 r2 q1 => ?_
    refine h1 σ H1 _ (ev.step (s1.trans s2)) r2 (t.step (s1.trans s2)) fun u2 d2 H2 μ2 h2 s3 r3 q2 => ?_
    obtain ⟨hd, hk⟩ := h2
    obtain ⟨vs, e2, rv⟩ := r3 _ _ hd
    cases rv
    refine ⟨e2, [((.inr k1 : Key), u1), ((.inr k2 : Key), u2)], rfl, by simp, ?_⟩
    have em : mergeK [] [((.inr k1 : Key), u1), ((.inr k2 : Key), u2)] = [((.inr k1 : Key), u1), ((.inr k2 : Key), u2)] := by
      have ne : ¬ ((Sum.inr k1 : Key) = .inr k2) := fun z => hne (Sum.inr.inj z)
      show putK (putK [] (Sum.inr k1 : Key) u1) (Sum.inr k2 : Key) u2 = _
      unfold putK
      simp [ne]
    rw [em]
    have s4 := Step.mut (H := H2) (o := .dK [((.inr k1 : Key), u1), ((.inr k2 : Key), u2)]) (u := .dic [((.inr k1 : Key), d1), ((.inr k2 : Key), d2)]) hd
    exact q _ _ _ _ hk (((s1.trans s2).trans s3).trans s4) (r3.put s4 ⟨_, upd_same, .cons ((q1.step s3).step s4) (.cons (q2.step s4) .nil)⟩) (.obj x)
end
end DL

/-! ## A def called where an exception is handled; it raises nothing -/
namespace DL
open PySem PySem.Spec L2 PyProof.Rows
structure FnQ (P : Program) (w : World) (K : Kf) (mg : Str → Option Value) (base : Heap) (k : Nat) (f : Addr) (fd : FuncData) (ps : List Str) (sp : Sp) : Prop where
  len : ∀ vs H Q E, sp vs H Q E → vs.length = ps.length
  run : ∀ (A : Around) (outer : List PySem.Env) (s : Shared) (H : Hp) (args : Args) (us : List Value) (vs : List V) (Q : VK), L2H.RoomH k A → Env0 P w K mg base A outer s H → BindsTo s fd args (ps.zip us) → Vals vs us → sp vs H Q (fun _ _ _ => False) →
    codeAny (model P w) A (.call (.ref f) args) (CR (L2.CX P w) outer P w H s Q (fun _ _ _ => False)) s
/-- the context of such a def's body -/
def cxQ (P : Program) (w : World) (K : Kf) (mg : Str → Option Value) (base : Heap) (N : List Str) (qual : Str) (scope : Scope) (f : Addr) (cd : Value) (A : Around) (outer : List PySem.Env) (s : Shared) (H : Hp) : Cx :=
  { cxOf (L2.CX P w) P w K mg base N qual scope f cd A outer s H (fun _ _ _ => False) with calm := false }
theorem inv_startQ {P : Program} {w : World} {K : Kf} {mg : Str → Option Value} {base : Heap} {N ps : List Str} {qual : Str} {scope : Scope} {f : Addr} {cd : Value} {A : Around} {outer : List PySem.Env} {s s1 : Shared} {H : Hp} {us : List Value} {vs : List V}
    (S : FnScope N ps scope) (e0 : Env0 P w K mg base A outer s H) (hl : vs.length = ps.length) (r : Vals vs us)
    (x : InCallC s s.heap.objs.size (bindL (envOfC qual scope s.heap.objs.size f cd).kindOf (ps.zip us) fun _ => none) (cellsFrom (s.heap.objs.size + 1) scope.names []) (bindC (envOfC qual scope s.heap.objs.size f cd).kindOf (ps.zip us) fun _ => none) s1) :
    Inv (cxQ P w K mg base N qual scope f cd A outer s H) [] (L2.start N vs) H s1 := by
  have hpl : ps.length ≤ N.length := by have := congrArg List.length S.pre; rw [List.length_take] at this; omega
  obtain ⟨h1, tk, rfl, hk⟩ := x.done
  have noA : ∀ b : Addr, b ∉ (cxQ P w K mg base N qual scope f cd A outer s H).ex := fun b z => absurd (show b ∈ ([] : List Addr) from z) (by simp)
  refine ⟨⟨e0.mod, S.kind, rfl, rfl, Nat.le_refl _, fun y z c h1 h2 => ?_, fun y hy => ?_, fun y c _ h => ?_, (fun z => Bool.noConfusion (show false = true from z)), Around.frames_deeper e0.frames, .inr ⟨rfl, rfl⟩, fun b z => absurd z (noA b), e0.bs, e0.bsz, fun b _ _ => noA b, fun b z => absurd z (noA b), e0.funs, e0.frf⟩,
    rfl, e0.bare, Un.kept hk, ⟨_, x.toInCall.ns, fun i y v h1 h2 h3 => ?_⟩, fun y c h => ⟨_, x.cell y c h⟩, e0.hok.fresh (Nat.le_refl _), fun y c h => ?_, fun p hp => absurd (show p ∈ ([] : List (Addr × Obj)) from hp) (by simp), e0.hok.kept hk, ?_⟩
  · exact name_of_addr x.apart (PySem.mem_of_lookup h1) (PySem.mem_of_lookup h2)
  · have hy : scope.names.lookup y = some .cell ∨ scope.names.lookup y = some .free := hy
    rcases hy with hy | hy
    · exact cell_has hy
    · exact absurd rfl (S.nofree _ (PySem.mem_of_lookup hy))
  · exact Nat.le_of_lt (x.above y c (PySem.mem_of_lookup h))
  · have hi : i < vs.length := by
      unfold L2.start at h2
      by_cases hi : i < vs.length
      · exact hi
      · rw [List.getElem?_append_right (by simpa using hi)] at h2
        rw [List.getElem?_replicate] at h2
        split at h2 <;> cases h2
    have ha : vs[i]? = some v := by
      unfold L2.start at h2
      rw [List.getElem?_append_left (by simpa using hi), List.getElem?_map] at h2
      cases e : vs[i]? with
      | none => rw [e] at h2; cases h2
      | some a => rw [e] at h2; cases h2; rfl
    obtain ⟨u, hu, rv⟩ := r.get ha
    have hp : ps[i]? = some y := by
      rw [← S.pre, List.getElem?_take_of_lt (by omega)]; exact h1
    have ndP : ps.Nodup := by rw [← S.pre]; exact S.nd.sublist (List.take_sublist _ _)
    refine ⟨u, rv, ?_⟩
    rcases S.par y (List.mem_of_getElem? hp) with k | k
    · exact .inl ⟨k, bindL_get ndP hp hu k⟩
    · obtain ⟨c, e⟩ := cell_has (n := s.heap.objs.size + 1) k
      refine .inr ⟨.inl k, c, e, ?_⟩
      have q := x.cell y c e
      rw [bindC_get ndP hp hu (by show scope.names.lookup y ≠ _; rw [k]; decide)] at q
      exact q
  · exact e0.hok.fresh (Nat.le_of_lt (x.above y c (PySem.mem_of_lookup h)))
  · unfold L2.start
    show _ = N.length
    rw [List.length_append, List.length_map, List.length_replicate]
    omega
theorem fn_dataQ {Pg : Program} {w : World} {K : Kf} {mg : Str → Option Value} {base : Heap} {x qual : Str} {st : Stmt} {f : Addr} {fd : FuncData} {N ps : List Str} {k : Nat} {S : DSp} (F : L2.Fun K x qual st f fd) (Sc : FnScope N ps (defScope st)) (len : ∀ ds μ kd ke, S ds μ kd ke → ds.length = ps.length)
    (hbody : ∀ (cdv : Value) (A : Around) (outer : List PySem.Env) (s : Shared) (H : Hp) (ds : List Dv) (μ : M) (kd : DK) (ke : XF), S ds μ kd ke →
      JB (cxQ Pg w K mg base N qual (defScope st) f cdv A outer s H) W0 KE0 (defBody st) (ds.map some ++ List.replicate (N.length - ds.length) none) μ { nx := fun _ μ' => kd .non μ', rt := kd }) : FnQ Pg w K mg base (k + 1) f fd ps (toSp K S) := by
  obtain ⟨oc, od, kV, doc, pm, an, cdv, ct, osl, rfl, lk, hcd⟩ := F.ex
  have ln : ∀ vs H Q E, toSp K S vs H Q E → vs.length = ps.length := fun vs H Q E h => by
    obtain ⟨ds, μ, kd, ke, dr, rp, sp, _⟩ := h
    rw [dr.length]
    exact len _ _ _ _ sp
  refine ⟨ln, fun A outer s H args us vs Q hr e0 hb r hsp => ?_⟩
  have hl := ln _ _ _ _ hsp
  have KX : K.In s.heap := e0.mod.kin.keeps fun b o e => (e0.bs b o e).1
  have lim : s.heap.NoLimit := e0.mod.nolimit.keeps fun b o e => (e0.bs b o e).1
  have hkind : ∀ y ∈ ps.zip us, (defScope st).names.lookup y.1 = some .local ∨ ((defScope st).names.lookup y.1 = some .cell ∧ ((cellsFrom (s.heap.objs.size + 1) (defScope st).names []).lookup y.1).isSome = true) := fun ⟨n, v⟩ hy => by
    rcases Sc.par n (List.of_mem_zip hy).1 with q | q
    · exact .inl q
    · exact .inr ⟨q, PySem.W.cellsFrom_some _ _ _ (.inl q)⟩
  refine codeAny_call_function hr.depth (KX _ _ lk) rfl Sc.co Sc.gen rfl (PySem.W.codeRec_of KX hcd) (hb _ _ _ _ ?_)
  refine wpAny_newFunctionEnv_cells Sc.kind hkind fun env he s1 x => ?_
  subst he
  refine ⟨lim.keeps x.toInCall.keep, codeAny_func ?_⟩
  have I : Inv (cxQ Pg w K mg base N qual (defScope st) f cdv A outer s H) [] (L2.start N vs) H s1 := inv_startQ Sc e0 hl r x
  obtain ⟨ds, μ, kd, ke, dr, rp, sp, tl, tx⟩ := hsp
  have go := hbody cdv A outer s H ds μ kd ke sp (L2.start N vs) H { nx := fun _ H' => Q .non H', rt := Q } (by
    unfold L2.start
    rw [dr.length]
    exact DL.Env.start _ dr) rp Thr.no ⟨fun σ' e' H' μ' h1 _ s1 r1 => tl .non .non H' μ' h1 s1 r1 .non, tl, fun _ _ _ _ h => False.elim h, fun _ _ _ _ h => False.elim h⟩
  refine wpAny_mono (pbC.run [] s1 (L2.start N vs) H _ I go) (fun fl s' hs => ?_) fun e s' hs => hs
  have fin : ∀ {σ' : L2.St} {H' : Hp} {v : V} {u : Value}, Inv (cxQ Pg w K mg base N qual (defScope st) f cdv A outer s H) [] σ' H' s' → RelV v u → Q v H' → CE outer Pg w H s Q u s' :=
    fun {σ' H' v u} J rv q => ⟨v, H', J.os, J.bare, J.base, J.hok, rv, q⟩
  cases fl with
  | ret u =>
    obtain ⟨v, σ', H', J, rv, q⟩ := hs
    exact fin J rv q
  | next =>
    obtain ⟨σ', H', J, q⟩ := hs
    exact fin (v := V.non) (u := Value.none) J rfl q
  | brk =>
    obtain ⟨_, _, _, q⟩ := hs
    exact False.elim q
  | cont =>
    obtain ⟨_, _, _, q⟩ := hs
    exact False.elim q
/-- such a def, as it is called -/
structure DCalQ (P : Program) (w : World) (K : Kf) (mg : Str → Option Value) (base : Heap) (k : Nat) (x : Str) (S : DSp) : Prop where
  ex : ∃ (f : Addr) (fd : FuncData) (ps : List Str), FnQ P w K mg base k f fd ps (toSp K S) ∧ Binds K fd ps [] ∧ mg x = some (.ref f) ∧ PySem.W.keepIn K (.ref f) = true
section
variable {X : Cx} {W : WX} {KE : XD} {e : Expr} {es : List Expr} {n : En} {μ : M} {k : DK} {pos p : Pos} {x : Str} {K : Kf} {kl j : Nat} {S : DSp}
theorem je_callQ (hr : L2H.RoomH j X.A) (F : DCalQ X.prog X.w X.K X.mg X.base j x S) (h : JA X W0 KE0 (e :: es) n μ fun args μ1 => S args μ1 k (fun _ _ _ => False)) (hg : Gl X x := by rfl)
    (hdb : (x == ("__debug__" : Str)) = false := by decide) (he : starEach (e :: es) X.env = (false, eval e X.env) :: starEach es X.env := by rfl) (hpl : (backTo pos (starEach es X.env)).any (·.1) = false := by rfl) :
    JE X W0 KE0 (.Call (.Name x p) (e :: es) [] pos) n μ k := fun σ H Q ev rp t q pins s I => by
  obtain ⟨f, fd, ps, F, hb, hm, hk⟩ := F.ex
  refine wpAny_Call_Name_kw (ld_glob I hg hm ?_ hdb)
  refine PySem.W.callWith_K (h₀ := X.base) I.ok.mod.kin hk (thn (h σ H _ ev rp t (fun us xs H1 μ1 h1 s1 r1 d1 => show (fun vs H1 => ∃ args μ1, S args μ1 k (fun _ _ _ => False) ∧ Step μ H μ1 H1 ∧ Rep X.K μ1 H1 ∧ DReps X.K μ1 H1 vs args) us H1 from ⟨xs, μ1, h1, s1, r1, d1⟩) pos pins s I) fun us s1 ⟨vs, H1, I1, r, args, μ1, h1, st1, r1, d1⟩ => ⟨I1.kIn, ?_⟩) he hpl
  have sp : toSp X.K S vs H1 Q (fun _ _ _ => False) := ⟨args, μ1, k, _, d1, r1, h1, q.step st1, fun cls fs d H' μ' h1 _ _ _ => h1⟩
  have hl : us.length = ps.length := by rw [← r.length]; exact F.len _ _ _ _ sp
  have b := hb s1 us I1.kIn (by rw [List.append_nil]; exact hl)
  rw [List.append_nil] at b
  refine wpAny_call (codeAny_mono (F.run X.A X.stack s1 H1 ⟨us, []⟩ us vs Q hr I1.env0 b r sp) fun r s' hq => ?_)
  cases r with
  | error e => exact (passAt takes0 σ) pins H1 s1 e s' I1 hq
  | ok fl =>
    cases fl with
    | ret u => exact I1.after hq
    | next => exact False.elim hq
    | brk => exact False.elim hq
    | cont => exact False.elim hq
end
end DL
namespace DL
open PySem PySem.Spec L2 PyProof.Rows
section
variable {K : Kf} {μ : M} {k : DK}
/-- two lists added, the new list kept in the store -/
theorem d_addM {x y : Dv} {xs ys : List Dv} (l1 : LsE μ x xs) (l2 : LsE μ y ys) (hz : xs.length + ys.length ≤ sizeLine) (h : ∀ p, μ p = none → k (.obj p) (updM μ p (.lst (xs ++ ys)))) : DOp K (rAddA K) x y μ k := fun u v H Q r du dv t => by
  obtain ⟨a, vs, rfl, ha, ra⟩ := l1.rep r du
  obtain ⟨b, ws, rfl, hb, rb⟩ := l2.rep r dv
  refine .inr (.inr (.inl ⟨a, b, vs, ws, rfl, rfl, ha, hb, by rw [ra.length, rb.length]; exact hz, fun p hp => ?_⟩))
  have s2 : Step μ H (updM μ p (.lst (xs ++ ys))) (upd H p (.lst (vs ++ ws))) := Step.newM hp
  exact t _ _ _ _ (h p (r.free hp)) s2 (r.put s2 ⟨_, upd_same, (ra.append rb).step s2⟩) (.obj p)
end
end DL

/-! ## str of a text or a number -/
namespace DL
open PySem PySem.Spec L2
def strD : Dv → Dv
  | .int i => .str (numS i)
  | d => d
/-- a text, or a number that is not too long -/
inductive SI : Dv → Prop where
  | str (z : Str) : SI (.str z)
  | int (i : Int) (h : i.natAbs.log2 < 1920) : SI (.int i)
def rStrB : List V → Hp → VK → Prop := fun xs H Q => (∃ a, xs = [V.str a] ∧ Q (.str a) H) ∨ ∃ i : Int, xs = [V.int i] ∧ i.natAbs.log2 < 1920 ∧ Q (.str (toString i)) H
theorem call_str_both {X : Cx} : CallR X (.type "str") rStrB := fun pins s σ H xs us Q I r h => h.elim (fun h => SkE.call_str_str pins s σ H xs us Q I r h) fun h => call_str_int pins s σ H xs us Q I r h
section
variable {K : Kf} {μ : M} {k : DK}
theorem d_strB {x : Dv} (s : SI x) (h : k (strD x) μ) : DCl K rStrB [x] μ k := fun us H Q r d t => by
  cases s with
  | str z =>
    cases d with
    | cons d0 dn =>
      cases dn; cases d0
      exact .inl ⟨z, rfl, tl_pure t h r (.str _)⟩
  | int i hl =>
    cases d with
    | cons d0 dn =>
      cases dn; cases d0
      exact .inr ⟨i, rfl, hl, tl_pure t h r (.str _)⟩
/-- a list of two texts and two numbers is no list of one text -/
theorem d_eqCall {a b w : Str} {t c : Int} (ha : PyData.strOk a = true) (hb : PyData.strOk b = true) (hw : PyData.strOk w = true) (h : k (.bl false) μ) : DOp K (rEqA K) (.lst [.str a, .str b, .int t, .int c]) (.lst [.str w]) μ k := by
  have e1 : DL.toPy (.lst [.str a, .str b, .int t, .int c]) = some (.list [.str a, .str b, .int t, .int c]) := by
    unfold DL.toPy DL.toPys DL.toPys DL.toPys DL.toPys DL.toPys DL.toPy
    rfl
  have e2 : DL.toPy (.lst [.str w]) = some (.list [.str w]) := by
    unfold DL.toPy DL.toPys DL.toPys DL.toPy
    rfl
  have s1 : SeqAt.shaped (.list [.str a, .str b, .int t, .int c]) = true := by
    have l : (PyData.list [.str a, .str b, .int t, .int c]).canLay0 = true := by
      unfold PyData.canLay0
      refine layAll_of fun x hx => ?_
      simp only [List.mem_cons, List.not_mem_nil, or_false] at hx
      rcases hx with rfl | rfl | rfl | rfl
      · unfold PyData.canLay0; exact ha
      · unfold PyData.canLay0; exact hb
      · unfold PyData.canLay0; rfl
      · unfold PyData.canLay0; rfl
    have p : (PyData.list [.str a, .str b, .int t, .int c]).depth ≤ 64 := by
      unfold PyData.depth
      have := depthAll_le (xs := [.str a, .str b, .int t, .int c]) (n := 0) (by
        intro x hx
        simp only [List.mem_cons, List.not_mem_nil, or_false] at hx
        rcases hx with rfl | rfl | rfl | rfl <;> (unfold PyData.depth; exact Nat.le_refl _))
      omega
    unfold SeqAt.shaped
    rw [l, decide_eq_true p]
    rfl
  have s2 : SeqAt.shaped (.list [.str w]) = true := by
    have l : (PyData.list [.str w]).canLay0 = true := by
      unfold PyData.canLay0
      refine layAll_of fun x hx => ?_
      cases List.mem_singleton.mp hx
      unfold PyData.canLay0; exact hw
    have p : (PyData.list [.str w]).depth ≤ 64 := by
      unfold PyData.depth
      have := depthAll_le (xs := [.str w]) (n := 0) (by
        intro x hx
        cases List.mem_singleton.mp hx
        unfold PyData.depth; exact Nat.le_refl _)
      omega
    unfold SeqAt.shaped
    rw [l, decide_eq_true p]
    rfl
  refine d_eqD e1 e2 s1 s2 ?_
  have e3 : PyData.eqv (.list [.str a, .str b, .int t, .int c]) (.list [.str w]) = false := by
    unfold PyData.eqv PyData.eqvAll PyData.eqvAll
    rw [Bool.and_false]
  rw [e3]
  exact h
end
end DL
namespace DL
open PySem PySem.Spec L2
section
variable {K : Kf} {μ : M} {k : DK}
/-- [d] * j, the new list kept in the store -/
theorem d_mulM {x d : Dv} {j : Int} (l1 : LsE μ x [d]) (hj : -(2 ^ 63) ≤ j ∧ j ≤ 16777216) (h : ∀ p, μ p = none → k (.obj p) (updM μ p (.lst (List.replicate j.toNat d)))) : DOp K rMulA x (.int j) μ k := fun u v H Q r du dv t => by
  obtain ⟨a, vs, rfl, ha, ra⟩ := l1.rep r du
  cases dv
  cases ra with
  | @cons v d vs xs h1 t1 =>
    cases t1
    refine .inr ⟨a, j, _, rfl, rfl, ha, hj.1, by omega, by show 1 * j.toNat ≤ sizeLine; rw [sizeLine_eq]; omega, fun p hp => ?_⟩
    rw [replicate_flatten_one]
    have s2 : Step μ H (updM μ p (.lst (List.replicate j.toNat d))) (upd H p (.lst (List.replicate j.toNat v))) := Step.newM hp
    exact t _ _ _ _ (h p (r.free hp)) s2 (r.put s2 ⟨_, upd_same, (DReps.replicate h1 _).step s2⟩) (.obj p)
end
end DL

namespace TSL
open PySem PySem.Spec L2 DL
structure Ad where
  CGE : Addr
  CNB : Addr
  CNM : Addr
  CNC : Addr
  CNN : Addr
  CLT : Addr
  CBR : Addr
  CJM : Addr
  CWM : Addr
  CJ : Addr
  CW : Addr
  CG : Addr
  CTU : Addr
structure Txt (K : Kf) (mg : Str → Option Value) (A : Ad) : Prop where
  cl_JarMeter : Cls K A.CJM
  na_JarMeter_most : NoAttr K A.CJM "most"
  na_JarMeter_flow : NoAttr K A.CJM "flow"
  na_JarMeter_level : NoAttr K A.CJM "level"
  na_JarMeter_last : NoAttr K A.CJM "last"
  cl_WindowMeter : Cls K A.CWM
  na_WindowMeter_most : NoAttr K A.CWM "most"
  na_WindowMeter_span : NoAttr K A.CWM "span"
  na_WindowMeter_rows : NoAttr K A.CWM "rows"
  cl_Jar : Cls K A.CJ
  na_Jar_size : NoAttr K A.CJ "size"
  na_Jar_flow : NoAttr K A.CJ "flow"
  cl_Window : Cls K A.CW
  na_Window_most : NoAttr K A.CW "most"
  na_Window_span : NoAttr K A.CW "span"
  cl_Gate : Cls K A.CG
  na_Gate_own : NoAttr K A.CG "own"
  na_Gate_common : NoAttr K A.CG "common"
  na_Gate_people : NoAttr K A.CG "people"
  na_Gate_latest : NoAttr K A.CG "latest"
  cl_Turns : Cls K A.CTU
  na_Turns_limits : NoAttr K A.CTU "limits"
  na_Turns_gate : NoAttr K A.CTU "gate"
  ic_Jar : PySem.W.findIn K (.ref A.CJ) "__class__" = some (some (.builtin "object.__class__"))
  im_Jar : PySem.W.mroIn K A.CJ (.type "object") = some true
  ic_Window : PySem.W.findIn K (.ref A.CW) "__class__" = some (some (.builtin "object.__class__"))
  im_Window : PySem.W.mroIn K A.CW (.type "object") = some true
  isn : PySem.W.specialIn K (.builtin "object.__class__") "__get__" = some (some (.builtin "getset_descriptor.__get__"))
  ist : PySem.W.takesIn K (.builtin "object.__class__") = some true
  x_GateError : Xc K mg "GateError" A.CGE
  xc_GateError : ExcC K A.CGE
  x_NoBound : Xc K mg "NoBound" A.CNB
  xc_NoBound : ExcC K A.CNB
  x_NoMoment : Xc K mg "NoMoment" A.CNM
  xc_NoMoment : ExcC K A.CNM
  x_NoCost : Xc K mg "NoCost" A.CNC
  xc_NoCost : ExcC K A.CNC
  x_NoName : Xc K mg "NoName" A.CNN
  xc_NoName : ExcC K A.CNN
  x_Late : Xc K mg "Late" A.CLT
  xc_Late : ExcC K A.CLT
  x_BadRow : Xc K mg "BadRow" A.CBR
  xc_BadRow : ExcC K A.CBR
  ex_NoBound_GateError : PySem.W.exmOne K (.ref A.CNB) (.ref A.CGE) = some true
  ex_NoMoment_GateError : PySem.W.exmOne K (.ref A.CNM) (.ref A.CGE) = some true
  ex_NoCost_GateError : PySem.W.exmOne K (.ref A.CNC) (.ref A.CGE) = some true
  ex_NoName_GateError : PySem.W.exmOne K (.ref A.CNN) (.ref A.CGE) = some true
  ex_Late_GateError : PySem.W.exmOne K (.ref A.CLT) (.ref A.CGE) = some true
  ex_BadRow_GateError : PySem.W.exmOne K (.ref A.CBR) (.ref A.CGE) = some true
  kit_Jar_Jar : PySem.W.kitOne K (.ref A.CJ) (.ref A.CJ) = some true
  kit_Window_Jar : PySem.W.kitOne K (.ref A.CW) (.ref A.CJ) = some false
  kit_Window_Window : PySem.W.kitOne K (.ref A.CW) (.ref A.CW) = some true
  kit_NoneType_Jar : PySem.W.kitOne K (.type "NoneType") (.ref A.CJ) = some false
  kit_NoneType_Window : PySem.W.kitOne K (.type "NoneType") (.ref A.CW) = some false
  kit_int_Jar : PySem.W.kitOne K (.type "int") (.ref A.CJ) = some false
  kit_int_Window : PySem.W.kitOne K (.type "int") (.ref A.CW) = some false
  kit_bool_Jar : PySem.W.kitOne K (.type "bool") (.ref A.CJ) = some false
  kit_bool_Window : PySem.W.kitOne K (.type "bool") (.ref A.CW) = some false
  kit_str_Jar : PySem.W.kitOne K (.type "str") (.ref A.CJ) = some false
  kit_str_Window : PySem.W.kitOne K (.type "str") (.ref A.CW) = some false
  kit_list_Jar : PySem.W.kitOne K (.type "list") (.ref A.CJ) = some false
  kit_list_Window : PySem.W.kitOne K (.type "list") (.ref A.CW) = some false
  kit_tuple_Jar : PySem.W.kitOne K (.type "tuple") (.ref A.CJ) = some false
  kit_tuple_Window : PySem.W.kitOne K (.type "tuple") (.ref A.CW) = some false
  kit_NoBound_NoBound : PySem.W.kitOne K (.ref A.CNB) (.ref A.CNB) = some true
  kit_NoBound_NoMoment : PySem.W.kitOne K (.ref A.CNB) (.ref A.CNM) = some false
  kit_NoBound_NoCost : PySem.W.kitOne K (.ref A.CNB) (.ref A.CNC) = some false
  kit_NoBound_NoName : PySem.W.kitOne K (.ref A.CNB) (.ref A.CNN) = some false
  kit_NoBound_Late : PySem.W.kitOne K (.ref A.CNB) (.ref A.CLT) = some false
  kit_NoBound_BadRow : PySem.W.kitOne K (.ref A.CNB) (.ref A.CBR) = some false
  kit_NoMoment_NoBound : PySem.W.kitOne K (.ref A.CNM) (.ref A.CNB) = some false
  kit_NoMoment_NoMoment : PySem.W.kitOne K (.ref A.CNM) (.ref A.CNM) = some true
  kit_NoMoment_NoCost : PySem.W.kitOne K (.ref A.CNM) (.ref A.CNC) = some false
  kit_NoMoment_NoName : PySem.W.kitOne K (.ref A.CNM) (.ref A.CNN) = some false
  kit_NoMoment_Late : PySem.W.kitOne K (.ref A.CNM) (.ref A.CLT) = some false
  kit_NoMoment_BadRow : PySem.W.kitOne K (.ref A.CNM) (.ref A.CBR) = some false
  kit_NoCost_NoBound : PySem.W.kitOne K (.ref A.CNC) (.ref A.CNB) = some false
  kit_NoCost_NoMoment : PySem.W.kitOne K (.ref A.CNC) (.ref A.CNM) = some false
  kit_NoCost_NoCost : PySem.W.kitOne K (.ref A.CNC) (.ref A.CNC) = some true
  kit_NoCost_NoName : PySem.W.kitOne K (.ref A.CNC) (.ref A.CNN) = some false
  kit_NoCost_Late : PySem.W.kitOne K (.ref A.CNC) (.ref A.CLT) = some false
  kit_NoCost_BadRow : PySem.W.kitOne K (.ref A.CNC) (.ref A.CBR) = some false
  kit_NoName_NoBound : PySem.W.kitOne K (.ref A.CNN) (.ref A.CNB) = some false
  kit_NoName_NoMoment : PySem.W.kitOne K (.ref A.CNN) (.ref A.CNM) = some false
  kit_NoName_NoCost : PySem.W.kitOne K (.ref A.CNN) (.ref A.CNC) = some false
  kit_NoName_NoName : PySem.W.kitOne K (.ref A.CNN) (.ref A.CNN) = some true
  kit_NoName_Late : PySem.W.kitOne K (.ref A.CNN) (.ref A.CLT) = some false
  kit_NoName_BadRow : PySem.W.kitOne K (.ref A.CNN) (.ref A.CBR) = some false
  kit_Late_NoBound : PySem.W.kitOne K (.ref A.CLT) (.ref A.CNB) = some false
  kit_Late_NoMoment : PySem.W.kitOne K (.ref A.CLT) (.ref A.CNM) = some false
  kit_Late_NoCost : PySem.W.kitOne K (.ref A.CLT) (.ref A.CNC) = some false
  kit_Late_NoName : PySem.W.kitOne K (.ref A.CLT) (.ref A.CNN) = some false
  kit_Late_Late : PySem.W.kitOne K (.ref A.CLT) (.ref A.CLT) = some true
  kit_Late_BadRow : PySem.W.kitOne K (.ref A.CLT) (.ref A.CBR) = some false
  kit_BadRow_NoBound : PySem.W.kitOne K (.ref A.CBR) (.ref A.CNB) = some false
  kit_BadRow_NoMoment : PySem.W.kitOne K (.ref A.CBR) (.ref A.CNM) = some false
  kit_BadRow_NoCost : PySem.W.kitOne K (.ref A.CBR) (.ref A.CNC) = some false
  kit_BadRow_NoName : PySem.W.kitOne K (.ref A.CBR) (.ref A.CNN) = some false
  kit_BadRow_Late : PySem.W.kitOne K (.ref A.CBR) (.ref A.CLT) = some false
  kit_BadRow_BadRow : PySem.W.kitOne K (.ref A.CBR) (.ref A.CBR) = some true
  m_len : mg "len" = none
  m_isinstance : mg "isinstance" = none
  m_int : mg "int" = none
  m_bool : mg "bool" = none
  m_tuple : mg "tuple" = none
  m_list : mg "list" = none
  m_range : mg "range" = none
  m_min : mg "min" = none
  m_max : mg "max" = none
  m_sum : mg "sum" = none
  m_str : mg "str" = none
  m_all : mg "all" = none
  m_sorted : mg "sorted" = none
  m_ValueError : mg "ValueError" = none
  m_enumerate : mg "enumerate" = none
  g_MOST_ROOM : Gv mg "MOST_ROOM" (.int 1000000000000000)
  g_MOST_FLOW : Gv mg "MOST_FLOW" (.int 1000000000)
  g_MOST_SPAN : Gv mg "MOST_SPAN" (.int 1000000000000)
  g_MOST_MOMENT : Gv mg "MOST_MOMENT" (.int 1000000000000)
  g_MOST_COST : Gv mg "MOST_COST" (.int 1000000000)
  g_MOST_LETTERS : Gv mg "MOST_LETTERS" (.int 8)
  g_LETTERS : Gv mg "LETTERS" (.str "abcdefghijklmnopqrstuvwxyz")
  g_MOST_BOUNDS_gate : Gv mg "MOST_BOUNDS_gate" (.int 4)
  g_FIGURES : Gv mg "FIGURES" (.str "0123456789")
  g_MOST_FIGURES : Gv mg "MOST_FIGURES" (.int 16)
  g_MOST_BOUNDS_rows : Gv mg "MOST_BOUNDS_rows" (.int 4)
  g_Jar : Gv mg "Jar" (.obj A.CJ)
  g_Window : Gv mg "Window" (.obj A.CW)
  g_NoBound : Gv mg "NoBound" (.obj A.CNB)
  g_NoMoment : Gv mg "NoMoment" (.obj A.CNM)
  g_NoCost : Gv mg "NoCost" (.obj A.CNC)
  g_NoName : Gv mg "NoName" (.obj A.CNN)
  g_Late : Gv mg "Late" (.obj A.CLT)
  g_BadRow : Gv mg "BadRow" (.obj A.CBR)
/-! ### bounds, rows, cells -/
theorem lookup_putD (f g : Str) (v : Dv) : ∀ fs : List (Str × Dv), (putD f v fs).lookup g = if g = f then some v else fs.lookup g
  | [] => by
    show ([(f, v)] : List (Str × Dv)).lookup g = _
    rw [List.lookup_cons]
    by_cases e : g = f
    · subst e; simp
    · have : (g == f) = false := by simpa using e
      rw [this, if_neg e]
  | (k, x) :: r => by
    show (if k = f then (k, v) :: r else (k, x) :: putD f v r).lookup g = _
    by_cases e : k = f
    · subst e
      rw [if_pos rfl, List.lookup_cons, List.lookup_cons]
      by_cases e2 : g = k
      · subst e2; simp
      · have : (g == k) = false := by simpa using e2
        rw [this, if_neg e2]
    · rw [if_neg e, List.lookup_cons, List.lookup_cons, lookup_putD f g v r]
      by_cases e2 : g = k
      · subst e2; simp [e]
      · have : (g == k) = false := by simpa using e2
        rw [this]
theorem length_putD (f : Str) (v : Dv) : ∀ fs : List (Str × Dv), (putD f v fs).length ≤ fs.length + 1
  | [] => Nat.le_refl _
  | (k, x) :: r => by
    show (if k = f then (k, v) :: r else (k, x) :: putD f v r).length ≤ _
    have := length_putD f v r
    split
    · simp
    · simp; omega
inductive Bd where
  | jar (s f : Int) | win (m s : Int)
  deriving DecidableEq
def Bd.ok : Bd → Prop
  | .jar s f => (1 ≤ s ∧ s ≤ 1000000000000000) ∧ 0 ≤ f ∧ f ≤ 1000000000
  | .win m s => (1 ≤ m ∧ m ≤ 1000000000000000) ∧ 1 ≤ s ∧ s ≤ 1000000000000
def Bd.tv : Bd → Dv
  | .jar s f => .tup [.str "jar", .int s, .int f]
  | .win m s => .tup [.str "window", .int m, .int s]
def Bd.room : Bd → Int → Int → Option Int
  | .jar s f, a, b => some (s + f * (b - a))
  | .win m s, a, b => if b - a < s then some m else none
def opI : Option Int → Dv
  | none => .non
  | some i => .int i
theorem opI_non (o : Option Int) : isNonD (opI o) = o.isNone := by cases o <;> rfl
abbrev encV : Enc (Int × Int) := Enc.pair Enc.int Enc.int
def m_c1 (ns : List Int) (k : Int) : Int := if ns = [] then 7919 * k + 11 else 7919 * k + 11 + ns.getD (k % ns.length).toNat 0 * 48271 + 96810 * k + k / ns.length * 7919
def m_tail (c1 k : Int) : Int := (c1 % 2147483647 * (c1 % 2147483647) % 2147483629 * (c1 % 2147483647 * (c1 % 2147483647) % 2147483629) + 69621 * (c1 % 2147483647 * (c1 % 2147483647) % 2147483629) + k) % 2147483587
def m_law_cell (ns : List Int) (k : Int) : Int := m_tail (m_c1 ns k) k
theorem cell_ne {ns : List Int} (h : ¬ ns = []) (k : Int) : m_law_cell ns k = m_tail (7919 * k + 11 + ns.getD (k % ns.length).toNat 0 * 48271 + 96810 * k + k / ns.length * 7919) k := congrArg (m_tail · k) (if_neg h)
theorem cell_nil {ns : List Int} (h : ns = []) (k : Int) : m_law_cell ns k = m_tail (7919 * k + 11) k := congrArg (m_tail · k) (if_pos h)
theorem cell_lo (ns : List Int) (k : Int) : 0 ≤ m_law_cell ns k := Int.emod_nonneg _ (by decide)
theorem cell_hi (ns : List Int) (k : Int) : m_law_cell ns k < 2147483587 := Int.emod_lt_of_pos _ (by decide)
section
def S__law_cell (A : Ad) : DSp := fun ds μ kd _ => ∃ (ns : List Int) (k : Int), ds = [.fro (ns.map Dv.int), .int k] ∧ ns.length ≤ 63 ∧ kd (.int (m_law_cell ns k)) μ
end
/-! ### fields -/
theorem lookup_hit {f : Str} {x : Dv} {r : List (Str × Dv)} : (((f, x) :: r).lookup f) = some x := by rw [List.lookup_cons]; simp
theorem lookup_miss {f g : Str} {x : Dv} {r : List (Str × Dv)} (h : ¬ g = f) : (((f, x) :: r).lookup g) = r.lookup g := by
  rw [List.lookup_cons]
  have : (g == f) = false := by simpa using h
  rw [this]
theorem putD_nil {f : Str} {v : Dv} : putD f v [] = [(f, v)] := rfl
theorem putD_hit {f : Str} {v x : Dv} {r : List (Str × Dv)} : putD f v ((f, x) :: r) = (f, v) :: r := if_pos rfl
theorem putD_miss {f g : Str} {v x : Dv} {r : List (Str × Dv)} (h : ¬ g = f) : putD f v ((g, x) :: r) = (g, x) :: putD f v r := if_neg h
section
variable {K : Kf} {μ : M} {k : DK}
theorem d_eqOp (o : Option Int) {i : Int} (h : k (.bl (decide (o = some i))) μ) : DOp K (rEqA K) (opI o) (.int i) μ k := by
  cases o with
  | none => exact d_eqNI h
  | some j => exact d_eqI (by rw [show decide (some j = some i) = decide (j = i) by simp] at h; exact h)
theorem d_neOp (o : Option Int) {i : Int} (h : k (.bl (!decide (o = some i))) μ) : DOp K (rNeA K) (opI o) (.int i) μ k := by
  cases o with
  | none => exact d_neNI h
  | some j => exact d_neI (by rw [show decide (some j = some i) = decide (j = i) by simp] at h; exact h)
end
theorem putD_lt1 {f : Str} {v : Dv} : (putD f v []).length < 1000 := Nat.lt_of_le_of_lt (length_putD _ _ _) (by decide)
theorem putD_lt2 {f g : Str} {v w : Dv} : (putD f v (putD g w [])).length < 1000 := Nat.lt_of_le_of_lt (Nat.le_trans (length_putD _ _ _) (Nat.succ_le_succ (length_putD _ _ _))) (by decide)
theorem putD_lt3 {f g h : Str} {v w x : Dv} : (putD f v (putD g w (putD h x []))).length < 1000 := Nat.lt_of_le_of_lt (Nat.le_trans (length_putD _ _ _) (Nat.succ_le_succ (Nat.le_trans (length_putD _ _ _) (Nat.succ_le_succ (length_putD _ _ _))))) (by decide)
theorem putD_ltF {f : Str} {v : Dv} {fs : List (Str × Dv)} {m : Nat} (h : fs.length = m) (hm : m < 900) : (putD f v fs).length < 1000 := Nat.lt_of_le_of_lt (length_putD _ _ _) (by rw [h]; omega)
theorem len_ltE {fs : List (Str × Dv)} {m : Nat} (h : fs.length = m) (hm : m < 900) : fs.length < 1000 := by rw [h]; omega
theorem fm_if {α : Type} (P : α → Prop) [DecidablePred P] (f : α → Dv) (xs : List α) : xs.filterMap (fun p => if P p then some (f p) else none) = (xs.filter fun p => decide (P p)).map f := by
  induction xs with
  | nil => rfl
  | cons x r ih =>
    rw [List.filterMap_cons, List.filter_cons]
    by_cases h : P x
    · rw [if_pos h, if_pos (decide_eq_true h), List.map_cons, ← ih]
    · rw [if_neg h, if_neg (by simpa using h), ← ih]
theorem fm_some {α β : Type} (f : α → β) (xs : List α) : xs.filterMap (fun p => some (f p)) = xs.map f := by
  induction xs with
  | nil => rfl
  | cons x r ih => rw [List.filterMap_cons, List.map_cons, ← ih]
theorem fm_int {α : Type} (f : α → Int) (xs : List α) : xs.filterMap (fun p => some (Dv.int (f p))) = (xs.map f).map Dv.int := by
  rw [fm_some (fun p => Dv.int (f p)), List.map_map]; rfl
theorem map_item {α : Type} {f : α → Dv} {xs : List α} {j : Nat} {x : Dv} (h : (xs.map f)[j]? = some x) : ∃ p, xs[j]? = some p ∧ x = f p := by
  rw [List.getElem?_map] at h
  cases e : xs[j]? with
  | none => rw [e] at h; cases h
  | some p => rw [e] at h; cases h; exact ⟨p, rfl, rfl⟩
theorem drop_of_get {α : Type} {xs : List α} {j : Nat} {p : α} (h : xs[j]? = some p) : xs.drop j = p :: xs.drop (j + 1) := by
  obtain ⟨hj, e⟩ := List.getElem?_eq_some_iff.mp h
  rw [List.drop_eq_getElem_cons hj, e]
theorem and_dec {p q : Prop} [Decidable p] [Decidable q] (h : (decide p && decide q) = true) : p ∧ q := by
  rw [Bool.and_eq_true] at h
  exact ⟨of_decide_eq_true h.1, of_decide_eq_true h.2⟩
theorem nand_dec {p q : Prop} [Decidable p] [Decidable q] (h : (decide p && decide q) = false) : ¬ (p ∧ q) := fun ⟨a, b⟩ => by
  rw [decide_eq_true a, decide_eq_true b] at h
  cases h
theorem or_dec {p q : Prop} [Decidable p] [Decidable q] (h : (decide p || decide q) = true) : p ∨ q := by
  rw [Bool.or_eq_true] at h
  exact h.imp of_decide_eq_true of_decide_eq_true
theorem nor_dec {p q : Prop} [Decidable p] [Decidable q] (h : (decide p || decide q) = false) : ¬ p ∧ ¬ q := by
  rw [Bool.or_eq_false_iff] at h
  exact ⟨of_decide_eq_false h.1, of_decide_eq_false h.2⟩
theorem and_ndec {p q : Prop} [Decidable p] [Decidable q] (h : (decide p && !decide q) = true) : p ∧ ¬ q := by
  rw [Bool.and_eq_true] at h
  refine ⟨of_decide_eq_true h.1, fun z => ?_⟩
  have := h.2
  rw [decide_eq_true z] at this
  cases this
theorem nand_ndec {p q : Prop} [Decidable p] [Decidable q] (h : (decide p && !decide q) = false) : ¬ (p ∧ ¬ q) := fun ⟨a, b⟩ => by
  rw [decide_eq_true a, decide_eq_false b] at h
  cases h
section
variable {K : Kf} {μ : M} {k : DK}
theorem d_ixAny {xs : List Dv} {i : Int} (h0 : 0 ≤ i) (h1 : i < (xs.length : Int)) (h : ∀ d ∈ xs, k d μ) : DOp K (rIx K) (.lst xs) (.int i) μ k :=
  d_ixL (.lst _) (at_getD .non h0 h1) (h _ (by
    have hl : i.toNat < xs.length := by omega
    rw [List.getD_eq_getElem?_getD, List.getElem?_eq_getElem hl]
    exact List.getElem_mem _))
end
theorem nodup_take {α : Type} {xs : List α} {j : Nat} {a : α} (h : xs.Nodup) (ha : xs[j]? = some a) : a ∉ xs.take j := fun hm => by
  obtain ⟨i, hi⟩ := List.getElem?_of_mem hm
  have hil : i < j := by
    have := (List.getElem?_eq_some_iff.mp hi).1
    rw [List.length_take] at this; omega
  rw [List.getElem?_take, if_pos hil] at hi
  obtain ⟨h1, e1⟩ := List.getElem?_eq_some_iff.mp hi
  obtain ⟨h2, e2⟩ := List.getElem?_eq_some_iff.mp ha
  have := (List.nodup_iff_pairwise_ne.mp h)
  have hne := (List.pairwise_iff_getElem.mp this) i j h1 h2 hil
  exact hne (e1.trans e2.symm)
theorem take_succ_get {α : Type} {xs : List α} {j : Nat} {a : α} (ha : xs[j]? = some a) : xs.take (j + 1) = xs.take j ++ [a] := by
  rw [List.take_add_one, ha]; rfl

/-! ### jars and windows -/
def jarF (s f : Int) : List (Str × Dv) := putD "flow" (.int f) (putD "size" (.int s) [])
def winF (m s : Int) : List (Str × Dv) := putD "span" (.int s) (putD "most" (.int m) [])
theorem sf_ : ¬ (("size" : Str) = "flow") := by decide +kernel
theorem ms_ : ¬ (("most" : Str) = "span") := by decide +kernel
theorem jarF_size (s f : Int) : (jarF s f).lookup ("size" : Str) = some (.int s) := by unfold jarF; rw [lookup_putD, if_neg sf_, lookup_putD, if_pos rfl]
theorem jarF_flow (s f : Int) : (jarF s f).lookup ("flow" : Str) = some (.int f) := by unfold jarF; rw [lookup_putD, if_pos rfl]
theorem winF_most (s f : Int) : (winF s f).lookup ("most" : Str) = some (.int s) := by unfold winF; rw [lookup_putD, if_neg ms_, lookup_putD, if_pos rfl]
theorem winF_span (s f : Int) : (winF s f).lookup ("span" : Str) = some (.int f) := by unfold winF; rw [lookup_putD, if_pos rfl]
theorem jarF_no (s f : Int) {g : Str} (h1 : ¬ g = "flow") (h2 : ¬ g = "size") : (jarF s f).lookup g = none := by unfold jarF; rw [lookup_putD, if_neg h1, lookup_putD, if_neg h2]; rfl
theorem winF_no (s f : Int) {g : Str} (h1 : ¬ g = "span") (h2 : ¬ g = "most") : (winF s f).lookup g = none := by unfold winF; rw [lookup_putD, if_neg h1, lookup_putD, if_neg h2]; rfl
def Bd.pv (A : Ad) : Bd → Dv
  | .jar s f => .ins A.CJ (jarF s f)
  | .win m s => .ins A.CW (winF m s)
section
def S_Jar_room (A : Ad) : DSp := fun ds μ kd _ => ∃ (s f a b : Int), ds = [(Bd.jar s f).pv A, .int a, .int b] ∧ (Bd.jar s f).ok ∧ kd (opI ((Bd.jar s f).room a b)) μ
def S_Window_room (A : Ad) : DSp := fun ds μ kd _ => ∃ (s f a b : Int), ds = [(Bd.win s f).pv A, .int a, .int b] ∧ kd (opI ((Bd.win s f).room a b)) μ
end
section
variable {X : Cx} {W : WX} {KE : XD} {e o : Expr} {es : List Expr} {n : En} {μ : M} {k : DK} {pos apos : Pos} {kl : Nat} {A : Ad}
/-- bound.room(..) of any bound -/
theorem je_room {pl : Sem Bool} {j : Nat} (c : Cok kl X W) (MJ : DMet X.prog X.w X.K X.mg X.base j A.CJ "room" (S_Jar_room A) []) (MW : DMet X.prog X.w X.K X.mg X.base j A.CW "room" (S_Window_room A) []) (hj : j ≤ kl) (b : Bd) (ok : b.ok)
    (h : JE X W KE o n μ fun d μ1 => d = b.pv A ∧ JA X W KE (e :: es) n μ1 fun ds μ2 => ∃ x y : Int, ds = [.int x, .int y] ∧ k (opI (b.room x y)) μ2)
    (hst : starEach (e :: es) X.env = (false, eval e X.env) :: starEach es X.env := by rfl) (hpl : (backTo pos (starEach es X.env)).any (·.1) = false := by rfl)
    (ht : eval (.Call (.Attribute o "room" apos) (e :: es) [] pos) X.env = (do
      let ov ← eval o X.env
      standAt apos.atName
      let (f, first) ← holding [ov] (getMethod ov "room" pl)
      callWith pos f first (backTo pos (starEach (e :: es) X.env)) (backToKw pos (keywordEach [] X.env))) := by rfl) : JE X W KE (.Call (.Attribute o "room" apos) (e :: es) [] pos) n μ k := by
  refine je_meth c (h.mono fun d μ1 ⟨e1, h1⟩ => ?_) hst hpl ht
  subst e1
  cases b with
  | jar s f => exact ⟨_, _, _, _, _, .ins _ _, jarF_no _ _ (by decide +kernel) (by decide +kernel), MJ, hj, fun σ H Q a b c d => h1 σ H Q a b c fun vs ds H' μ' ⟨x, y, e2, hk⟩ => d vs ds H' μ' (by subst e2; exact ⟨s, f, x, y, rfl, ok, hk⟩)⟩
  | win s f => exact ⟨_, _, _, _, _, .ins _ _, winF_no _ _ (by decide +kernel) (by decide +kernel), MW, hj, fun σ H Q a b c d => h1 σ H Q a b c fun vs ds H' μ' ⟨x, y, e2, hk⟩ => d vs ds H' μ' (by subst e2; exact ⟨s, f, x, y, rfl, hk⟩)⟩
end

/-! ### what the laws draw -/
def m_law_bound (c z : Int) : Bd :=
  if c % 2 = 0 then .jar ((1 + c / 24 % 20) * z) (min (([0, 1, 2, 3, 1, 2] : List Int).getD (c / 2 % 6).toNat 0 * ([1, z] : List Int).getD (c / 12 % 2).toNat 0) 1000000000)
  else .win ((1 + c / 2 % 20) * z + c / 40 % 2) (1 + c / 80 % ([6, 40] : List Int).getD (c / 3200 % 2).toNat 0)
def m_law_gap (c : Int) : Int := ([0, 0, 1, 1, 2, 3, c / 10 % 9, c / 10 % 60, 0, c / 10 % 1000000] : List Int).getD (c % 10).toNat 0
def m_law_cost (c z : Int) : Int := min 1000000000 (([1 + c % 6, 1, 1 + c / 3 % 20] : List Int).getD (c / 60 % 3).toNat 0 * z + c / 180 % 2 * (z / 2))
def m_law_scale (c : Int) : Int := ([1, 1, 1000, 1000000, 4 * 10000000] : List Int).getD (c % 5).toNat 0
theorem getD_all {P : Int → Prop} {d : Int} : ∀ {l : List Int} {i : Nat}, (∀ x ∈ l, P x) → i < l.length → P (l.getD i d)
  | x :: l, 0, h, _ => h x List.mem_cons_self
  | x :: l, i + 1, h, hl => getD_all (l := l) (i := i) (fun y hy => h y (List.mem_cons_of_mem _ hy)) (Nat.lt_of_succ_lt_succ hl)
theorem scale_ok (c : Int) : 1 ≤ m_law_scale c ∧ m_law_scale c ≤ 40000000 := by
  unfold m_law_scale
  have h0 := Int.emod_nonneg c (show (5 : Int) ≠ 0 by decide)
  have h1 := Int.emod_lt_of_pos c (show (0 : Int) < 5 by decide)
  exact getD_all (P := fun x => 1 ≤ x ∧ x ≤ 40000000) (by decide) (by simp; omega)
theorem gap_ok {c : Int} (h : 0 ≤ c) : 0 ≤ m_law_gap c ∧ m_law_gap c ≤ 1000000 := by
  unfold m_law_gap
  refine getD_all (P := fun x => 0 ≤ x ∧ x ≤ 1000000) ?_ (by simp; omega)
  intro x hx
  simp only [List.mem_cons, List.not_mem_nil, or_false] at hx
  rcases hx with rfl | rfl | rfl | rfl | rfl | rfl | rfl | rfl | rfl | rfl <;> omega
theorem mul_le_of {a b x y : Int} (h0 : 0 ≤ a) (h1 : a ≤ x) (h2 : 0 ≤ b) (h3 : b ≤ y) : 0 ≤ a * b ∧ a * b ≤ x * y :=
  ⟨Int.mul_nonneg h0 h2, Int.mul_le_mul h1 h3 h2 (Int.le_trans h0 h1)⟩
theorem cost_ok {c z : Int} (h : 0 ≤ c) (hz : 1 ≤ z) : 1 ≤ m_law_cost c z ∧ m_law_cost c z ≤ 1000000000 := by
  unfold m_law_cost
  have h1 : 1 ≤ ([1 + c % 6, 1, 1 + c / 3 % 20] : List Int).getD (c / 60 % 3).toNat 0 := by
    refine getD_all (P := fun x => 1 ≤ x) ?_ (by simp; omega)
    intro x hx
    simp only [List.mem_cons, List.not_mem_nil, or_false] at hx
    rcases hx with rfl | rfl | rfl <;> omega
  generalize ([1 + c % 6, 1, 1 + c / 3 % 20] : List Int).getD (c / 60 % 3).toNat 0 = m at h1
  have h2 : 1 * 1 ≤ m * z := Int.mul_le_mul h1 hz (by decide) (by omega)
  have h3 : 0 ≤ c / 180 % 2 * (z / 2) := Int.mul_nonneg (by omega) (by omega)
  generalize m * z = mz at *
  generalize c / 180 % 2 * (z / 2) = q at *
  omega
theorem bound_ok {c z : Int} (h : 0 ≤ c) (hz : 1 ≤ z) (hz2 : z ≤ 40000000) : (m_law_bound c z).ok := by
  unfold m_law_bound
  split
  · show (1 ≤ _ ∧ _ ≤ _) ∧ 0 ≤ _ ∧ _ ≤ _
    have h1 : 0 ≤ ([0, 1, 2, 3, 1, 2] : List Int).getD (c / 2 % 6).toNat 0 := getD_all (P := fun x => 0 ≤ x) (by decide) (by simp; omega)
    have h2 : 0 ≤ ([1, z] : List Int).getD (c / 12 % 2).toNat 0 := getD_all (P := fun x => 0 ≤ x) (by intro x hx; simp only [List.mem_cons, List.not_mem_nil, or_false] at hx; rcases hx with rfl | rfl <;> omega) (by simp; omega)
    have h3 := Int.mul_nonneg h1 h2
    have h4 : 1 * 1 ≤ (1 + c / 24 % 20) * z := Int.mul_le_mul (by omega) hz (by decide) (by omega)
    have h5 := (mul_le_of (a := 1 + c / 24 % 20) (b := z) (x := 20) (y := 40000000) (by omega) (by omega) (by omega) (by omega)).2
    omega
  · show (1 ≤ _ ∧ _ ≤ _) ∧ 1 ≤ _ ∧ _ ≤ _
    have h4 : 1 * 1 ≤ (1 + c / 2 % 20) * z := Int.mul_le_mul (by omega) hz (by decide) (by omega)
    have h5 := (mul_le_of (a := 1 + c / 2 % 20) (b := z) (x := 20) (y := 40000000) (by omega) (by omega) (by omega) (by omega)).2
    have h6 : 1 ≤ ([6, 40] : List Int).getD (c / 3200 % 2).toNat 0 ∧ ([6, 40] : List Int).getD (c / 3200 % 2).toNat 0 ≤ 40 := getD_all (P := fun x => 1 ≤ x ∧ x ≤ 40) (by decide) (by simp; omega)
    generalize ([6, 40] : List Int).getD (c / 3200 % 2).toNat 0 = q at *
    have h7 := Int.emod_nonneg (c / 80) (show q ≠ 0 by omega)
    have h8 := Int.emod_lt_of_pos (c / 80) (show 0 < q by omega)
    omega
/-- a bound of the law, as its tuple tells it -/
def Bd.kind : Bd → Str
  | .jar _ _ => "jar"
  | .win _ _ => "window"
def Bd.sz : Bd → Int
  | .jar s _ => s
  | .win m _ => m
def Bd.par : Bd → Int
  | .jar _ f => f
  | .win _ s => s
def Bd.mulS (q : Int) : Bd → Bd
  | .jar s f => .jar (s * q) f
  | .win m s => .win (m * q) s
theorem Bd.tv_mulS (q : Int) (b : Bd) : Dv.tup [.str b.kind, .int (b.sz * q), .int b.par] = (b.mulS q).tv := by cases b <;> rfl
theorem Bd.ok_mulS {q : Int} {b : Bd} (h : b.ok) (hs : b.sz ≤ 100000000000000) (h1 : 1 ≤ q) (h2 : q ≤ 10) : (b.mulS q).ok := by
  cases b with
  | jar s f =>
    obtain ⟨⟨a1, a2⟩, a3⟩ := h
    have z1 : 1 * 1 ≤ s * q := Int.mul_le_mul a1 h1 (by decide) (by omega)
    have z2 : s * q ≤ 100000000000000 * 10 := Int.mul_le_mul hs h2 (by omega) (by decide)
    exact ⟨⟨by omega, by omega⟩, a3⟩
  | win s f =>
    obtain ⟨⟨a1, a2⟩, a3⟩ := h
    have z1 : 1 * 1 ≤ s * q := Int.mul_le_mul a1 h1 (by decide) (by omega)
    have z2 : s * q ≤ 100000000000000 * 10 := Int.mul_le_mul hs h2 (by omega) (by decide)
    exact ⟨⟨by omega, by omega⟩, a3⟩
theorem Bd.ok.lo {b : Bd} (h : b.ok) : 1 ≤ b.sz := by cases b <;> exact h.1.1
theorem Bd.ok.hi {b : Bd} (h : b.ok) : b.sz ≤ 1000000000000000 := by cases b <;> exact h.1.2
theorem bound_sz {c z : Int} (h : 0 ≤ c) (hz : 1 ≤ z) (hz2 : z ≤ 40000000) : (m_law_bound c z).sz ≤ 1000000000 := by
  unfold m_law_bound
  split
  · have h5 := (mul_le_of (a := 1 + c / 24 % 20) (b := z) (x := 20) (y := 40000000) (by omega) (by omega) (by omega) (by omega)).2
    show (1 + c / 24 % 20) * z ≤ _
    omega
  · have h5 := (mul_le_of (a := 1 + c / 2 % 20) (b := z) (x := 20) (y := 40000000) (by omega) (by omega) (by omega) (by omega)).2
    show (1 + c / 2 % 20) * z + c / 40 % 2 ≤ _
    omega
section
variable {K : Kf} {μ : M} {k : DK}
theorem d_ixB0 {b : Bd} (h : k (.str b.kind) μ) : DOp K (rIx K) b.tv (.int 0) μ k := by cases b <;> exact d_ixT rfl h
theorem d_ixB1 {b : Bd} (h : k (.int b.sz) μ) : DOp K (rIx K) b.tv (.int 1) μ k := by cases b <;> exact d_ixT rfl h
theorem d_ixB2 {b : Bd} (h : k (.int b.par) μ) : DOp K (rIx K) b.tv (.int 2) μ k := by cases b <;> exact d_ixT rfl h
end
/-- moments and visits, as a law draws them: cells from o on, g apart -/
def m_mom (ns : List Int) (o g : Int) (m0 : Int) : Nat → Int
  | 0 => m0
  | j + 1 => m_mom ns o g m0 j + m_law_gap (m_law_cell ns (o + g * (j : Int)))
section
def S__law_bound (A : Ad) : DSp := fun ds μ kd _ => ∃ c z : Int, ds = [.int c, .int z] ∧ 0 ≤ c ∧ 1 ≤ z ∧ z ≤ 40000000 ∧ kd (m_law_bound c z).tv μ
def S__law_gap (A : Ad) : DSp := fun ds μ kd _ => ∃ c : Int, ds = [.int c] ∧ kd (.int (m_law_gap c)) μ
def S__law_cost (A : Ad) : DSp := fun ds μ kd _ => ∃ c z : Int, ds = [.int c, .int z] ∧ 0 ≤ c ∧ 1 ≤ z ∧ z ≤ 40000000 ∧ kd (.int (m_law_cost c z)) μ
def S__law_scale (A : Ad) : DSp := fun ds μ kd _ => ∃ c : Int, ds = [.int c] ∧ kd (.int (m_law_scale c)) μ
end

/-! ### visits -/
abbrev Vs := List (Int × Int)
def vAt (vs : Vs) (i : Nat) : Int × Int := vs.getD i (0, 0)
theorem rng_item {lo : Int} {n j : Nat} {x : Dv} (h : (Src.rng lo n).items[j]? = some x) : x = .int (lo + (j : Int)) ∧ j < n := by
  have h' : ((List.range n).map fun (i : Nat) => Dv.int (lo + (i : Int)))[j]? = some x := h
  rw [List.getElem?_map] at h'
  by_cases z : j < n
  · rw [List.getElem?_range z] at h'
    cases h'
    exact ⟨rfl, z⟩
  · rw [List.getElem?_eq_none (by simpa using z)] at h'; cases h'
theorem rng_len {lo : Int} {n : Nat} : (Src.rng lo n).items.length = n := by simp [Src.items]
theorem rng_item0 {n j : Nat} {x : Dv} (h : (Src.rng 0 n).items[j]? = some x) : x = .int (j : Int) ∧ j < n := by
  have := rng_item h
  rw [Int.zero_add] at this
  exact this
section
variable {K : Kf} {μ : M} {k : DK}
theorem d_ixV (j : Nat) {vs : Vs} {i : Int} (e : i = (j : Int)) (h : j < vs.length) (hk : k (.tup [.int (vAt vs j).1, .int (vAt vs j).2]) μ) : DOp K (rIx K) (.lst (vs.map encV.dv)) (.int i) μ k := by
  refine d_ixMap encV.dv vs (0, 0) (.lst _) (by omega) (by omega) ?_
  rw [show i.toNat = j by omega]
  exact hk
theorem d_ixVx {x : Dv} {vs : Vs} (l : SqD μ x (vs.map encV.dv)) (j : Nat) {i : Int} (e : i = (j : Int)) (h : j < vs.length) (hk : k (.tup [.int (vAt vs j).1, .int (vAt vs j).2]) μ) : DOp K (rIx K) x (.int i) μ k := by
  refine d_ixMap encV.dv vs (0, 0) l (by omega) (by omega) ?_
  rw [show i.toNat = j by omega]
  exact hk
end

/-! ### the law's own wait, by the stretches -/
def sumc : Vs → Int
  | [] => 0
  | v :: r => v.2 + sumc r
def Bd.wnew (b : Bd) (f m u t : Int) : Option Int := match b with
  | .win _ p => some (max f (m + p - t))
  | .jar s p => if p = 0 then none else some (max f (m + (u - s + p - 1) / p - t))
/-- what is found of the visits from one on -/
def wgo (b : Bd) (t c : Int) : Vs → Option Int
  | [] => some 0
  | v :: r => match wgo b t c r with
    | none => none
    | some f => if b.sz < c + sumc (v :: r) then b.wnew f v.1 (c + sumc (v :: r)) t else some f
def m_law_wait (b : Bd) (vs : Vs) (t c : Int) : Option Int := if b.sz < c then none else wgo b t c vs
theorem wgo_none {b : Bd} {t c : Int} {v : Int × Int} {r : Vs} (h : wgo b t c r = none) : wgo b t c (v :: r) = none := by
  show (match wgo b t c r with | none => none | some f => _) = none
  rw [h]
theorem wgo_drop_none {b : Bd} {t c : Int} : ∀ {vs : Vs} {k : Nat}, wgo b t c (vs.drop k) = none → wgo b t c vs = none
  | vs, 0, h => h
  | [], k + 1, h => by rw [List.drop_nil] at h; exact h
  | v :: r, k + 1, h => wgo_none (wgo_drop_none (k := k) h)
theorem drop_vAt {vs : Vs} {k : Nat} (h : k < vs.length) : vs.drop k = vAt vs k :: vs.drop (k + 1) := by
  rw [List.drop_eq_getElem_cons h]
  unfold vAt
  rw [List.getD_eq_getElem?_getD, List.getElem?_eq_getElem h]
  rfl
theorem wgo_step {b : Bd} {t c f : Int} {vs : Vs} {k : Nat} (hk : k < vs.length) (h : wgo b t c (vs.drop (k + 1)) = some f) : wgo b t c (vs.drop k) = if b.sz < c + sumc (vs.drop (k + 1)) + (vAt vs k).2 then b.wnew f (vAt vs k).1 (c + sumc (vs.drop (k + 1)) + (vAt vs k).2) t else some f := by
  rw [drop_vAt hk]
  show (match wgo b t c (vs.drop (k + 1)) with | none => none | some f => _) = _
  rw [h]
  show (if b.sz < c + ((vAt vs k).2 + sumc (vs.drop (k + 1))) then b.wnew f (vAt vs k).1 (c + ((vAt vs k).2 + sumc (vs.drop (k + 1)))) t else some f) = _
  rw [show c + ((vAt vs k).2 + sumc (vs.drop (k + 1))) = c + sumc (vs.drop (k + 1)) + (vAt vs k).2 by omega]
theorem sumc_step {vs : Vs} {k : Nat} (hk : k < vs.length) : sumc (vs.drop k) = sumc (vs.drop (k + 1)) + (vAt vs k).2 := by
  rw [drop_vAt hk]
  show (vAt vs k).2 + _ = _
  omega
theorem Bd.par_lo {b : Bd} (h : b.ok) : 0 ≤ b.par ∧ (b.kind = "window" ∨ b.par ≤ 1000000000) := by
  cases b with
  | jar s f => exact ⟨h.2.1, .inr h.2.2⟩
  | win s f => exact ⟨by have := h.2.1; show 0 ≤ f; omega, .inl rfl⟩
theorem kind_jar {s f : Int} : ¬ (Bd.jar s f).kind = "window" := by show ¬ ("jar" : Str) = "window"; decide +kernel
theorem wnew_win {b : Bd} (h : b.kind = "window") (f m u t : Int) : b.wnew f m u t = some (max f (m + b.par - t)) := by
  cases b with
  | jar s p => exact absurd h kind_jar
  | win s p => rfl
theorem wnew_zero {b : Bd} (h : ¬ b.kind = "window") (hp : b.par = 0) (f m u t : Int) : b.wnew f m u t = none := by
  cases b with
  | jar s p => exact if_pos hp
  | win s p => exact absurd rfl h
theorem wnew_jar {b : Bd} (h : ¬ b.kind = "window") (hp : ¬ b.par = 0) (f m u t : Int) : b.wnew f m u t = some (max f (m + (u - b.sz + b.par - 1) / b.par - t)) := by
  cases b with
  | jar s p => exact if_neg hp
  | win s p => exact absurd rfl h
theorem rgc_item {lo c : Int} {n j : Nat} {x : Dv} (h : (Src.rgc lo c n).items[j]? = some x) : x = .int (lo + (j : Int) * c) ∧ j < n := by
  have h' : ((List.range n).map fun (i : Nat) => Dv.int (lo + (i : Int) * c))[j]? = some x := h
  rw [List.getElem?_map] at h'
  by_cases z : j < n
  · rw [List.getElem?_range z] at h'
    cases h'
    exact ⟨rfl, z⟩
  · rw [List.getElem?_eq_none (by simpa using z)] at h'; cases h'
theorem rgc_len {lo c : Int} {n : Nat} : (Src.rgc lo c n).items.length = n := by simp [Src.items]
section
def S__law_wait (A : Ad) : DSp := fun ds μ kd _ => ∃ (b : Bd) (vs : Vs) (x : Dv) (t c : Int), ds = [b.tv, x, .int t, .int c] ∧ b.ok ∧ SqD μ x (vs.map encV.dv) ∧ vs.length ≤ 100000 ∧ kd (opI (m_law_wait b vs t c)) μ
end
/-! ### the wait is the least -/
theorem wgo_later {b : Bd} {t c d : Int} (hd : 0 ≤ d) : ∀ {vs : Vs} {f : Int}, wgo b t c vs = some f → wgo b (t + d) c vs = some (max 0 (f - d))
  | [], f, h => by
    cases h
    show some (0 : Int) = _
    rw [show max (0 : Int) (0 - d) = 0 by omega]
  | v :: r, f, h => by
    have h' : (match wgo b t c r with | none => none | some g => if b.sz < c + sumc (v :: r) then b.wnew g v.1 (c + sumc (v :: r)) t else some g) = some f := h
    show (match wgo b (t + d) c r with | none => none | some g => if b.sz < c + sumc (v :: r) then b.wnew g v.1 (c + sumc (v :: r)) (t + d) else some g) = _
    cases hr : wgo b t c r with
    | none => rw [hr] at h'; cases h'
    | some g =>
      rw [hr] at h'
      rw [wgo_later hd hr]
      replace h' : (if b.sz < c + sumc (v :: r) then b.wnew g v.1 (c + sumc (v :: r)) t else some g) = some f := h'
      show (if b.sz < c + sumc (v :: r) then b.wnew (max 0 (g - d)) v.1 (c + sumc (v :: r)) (t + d) else some (max 0 (g - d))) = _
      generalize c + sumc (v :: r) = u at h' ⊢
      split at h'
      · rw [if_pos (by assumption)]
        cases b with
        | win s p =>
          cases h'
          show some (max (max 0 (g - d)) (v.1 + p - (t + d))) = _
          congr 1; omega
        | jar s p =>
          by_cases z : p = 0
          · rw [show (Bd.jar s p).wnew g v.1 u t = none from if_pos z] at h'; cases h'
          · rw [show (Bd.jar s p).wnew g v.1 u t = _ from if_neg z] at h'
            cases h'
            rw [show (Bd.jar s p).wnew (max 0 (g - d)) v.1 u (t + d) = _ from if_neg z]
            congr 1; omega
      · rw [if_neg (by assumption)]
        cases h'
        rfl
theorem wait_later {b : Bd} {vs : Vs} {t c d : Int} (hd : 0 ≤ d) (h : m_law_wait b vs t c = some d) : m_law_wait b vs (t + d) c = some 0 := by
  unfold m_law_wait at h ⊢
  split at h
  · cases h
  · rw [if_neg (by assumption), wgo_later hd h]
    congr 1; omega
theorem wgo_nonneg {b : Bd} {t c : Int} : ∀ {vs : Vs} {f : Int}, wgo b t c vs = some f → 0 ≤ f
  | [], f, h => by cases h; exact Int.le_refl _
  | v :: r, f, h => by
    have h' : (match wgo b t c r with | none => none | some g => if b.sz < c + sumc (v :: r) then b.wnew g v.1 (c + sumc (v :: r)) t else some g) = some f := h
    cases hr : wgo b t c r with
    | none => rw [hr] at h'; cases h'
    | some g =>
      have hg := wgo_nonneg hr
      rw [hr] at h'
      replace h' : (if b.sz < c + sumc (v :: r) then b.wnew g v.1 (c + sumc (v :: r)) t else some g) = some f := h'
      split at h'
      · cases b with
        | win s p => cases h'; omega
        | jar s p =>
          by_cases z : p = 0
          · rw [show (Bd.jar s p).wnew g v.1 _ t = none from if_pos z] at h'; cases h'
          · rw [show (Bd.jar s p).wnew g v.1 _ t = _ from if_neg z] at h'
            cases h'; omega
      · cases h'; exact hg
theorem wait_nonneg {b : Bd} {vs : Vs} {t c d : Int} (h : m_law_wait b vs t c = some d) : 0 ≤ d := by
  unfold m_law_wait at h
  split at h
  · cases h
  · exact wgo_nonneg h

/-! ### meters -/
inductive Mt where
  | jar (s f l t : Int) | win (m s : Int) (rows : Vs)
def Mt.lev (s f l t0 t : Int) : Int := min s (l + f * (t - t0))
def wloop (m s t : Int) : Vs → Int → Int → Int
  | [], _, f => f
  | v :: r, u, f => if u ≤ m then f else wloop m s t r (u - v.2) (v.1 + s - t)
def keepV (s t : Int) (vs : Vs) : Vs := vs.filter fun p => decide (t - s < p.1)
def Mt.wait : Mt → Int → Int → Option Int
  | .jar s f l t0, t, c => if c - Mt.lev s f l t0 t ≤ 0 then some 0 else if s < c ∨ f = 0 then none else some ((c - Mt.lev s f l t0 t + f - 1) / f)
  | .win m s rows, t, c => if m < c then none else some (wloop m s t (keepV s t rows) (sumc (keepV s t rows) + c) 0)
def Mt.take : Mt → Int → Int → Mt
  | .jar s f l t0, t, c => .jar s f (Mt.lev s f l t0 t - c) t
  | .win m s rows, t, c => .win m s (keepV s t rows ++ [(t, c)])
def Mt.kept : Mt → Nat
  | .jar .. => 0
  | .win _ _ rows => rows.length
/-- the meter of a bound, new -/
def Bd.meter : Bd → Mt
  | .jar s f => .jar s f s 0
  | .win m s => .win m s []
def gl (b : Bd) (t c : Int) : Vs → Int
  | [] => c - b.sz
  | v :: r => max (gl b t c r) (c + sumc (v :: r) - b.sz - b.par * (t - v.1))
/-- moments go up to `top`, costs are not below 0 -/
def Row (top : Int) : Vs → Prop
  | [] => True
  | v :: r => v.1 ≤ top ∧ 0 ≤ v.2 ∧ (∀ p ∈ r, v.1 ≤ p.1) ∧ Row top r
theorem Row.mono {a b : Int} (h : a ≤ b) : ∀ {vs : Vs}, Row a vs → Row b vs
  | [], _ => trivial
  | _ :: _, r => ⟨Int.le_trans r.1 h, r.2.1, r.2.2.1, r.2.2.2.mono h⟩
theorem Row.top {a : Int} : ∀ {vs : Vs}, Row a vs → ∀ p ∈ vs, p.1 ≤ a
  | _ :: _, r, p, h => by
    rcases List.mem_cons.mp h with rfl | h
    · exact r.1
    · exact r.2.2.2.top p h
theorem Row.add {a t c : Int} (h : a ≤ t) (hc : 0 ≤ c) : ∀ {vs : Vs}, Row a vs → Row t (vs ++ [(t, c)])
  | [], _ => ⟨Int.le_refl _, hc, fun p hp => (nomatch hp), trivial⟩
  | v :: r, q => ⟨Int.le_trans q.1 h, q.2.1, fun p hp => by
      rcases List.mem_append.mp hp with hp | hp
      · exact q.2.2.1 p hp
      · cases List.mem_singleton.mp hp; exact Int.le_trans q.1 h, Row.add h hc q.2.2.2⟩
theorem Row.filter {a : Int} (P : Int × Int → Bool) : ∀ {vs : Vs}, Row a vs → Row a (vs.filter P)
  | [], _ => trivial
  | v :: r, q => by
    rw [List.filter_cons]
    split
    · exact ⟨q.1, q.2.1, fun p hp => q.2.2.1 p (List.mem_filter.mp hp).1, q.2.2.2.filter P⟩
    · exact q.2.2.2.filter P
theorem sumc_append : ∀ (xs ys : Vs), sumc (xs ++ ys) = sumc xs + sumc ys
  | [], ys => by show sumc ys = 0 + _; omega
  | x :: xs, ys => by show x.2 + sumc (xs ++ ys) = x.2 + sumc xs + _; rw [sumc_append xs ys]; omega
theorem sumc_sum : ∀ xs : Vs, (xs.map (·.2)).sum = sumc xs
  | [] => rfl
  | x :: xs => by rw [List.map_cons, List.sum_cons, sumc_sum xs]; rfl
theorem sumc_nonneg {a : Int} : ∀ {vs : Vs}, Row a vs → 0 ≤ sumc vs
  | [], _ => Int.le_refl _
  | v :: r, q => by have := sumc_nonneg q.2.2.2; have := q.2.1; show 0 ≤ v.2 + sumc r; omega
/-! the jar -/
theorem gl_le {b : Bd} (t c : Int) : ∀ vs : Vs, c - b.sz ≤ gl b t c vs
  | [] => Int.le_refl _
  | v :: r => by have := gl_le (b := b) t c r; show _ ≤ max (gl b t c r) _; omega
theorem gl_add (b : Bd) (t c m d : Int) : ∀ vs : Vs, gl b t c (vs ++ [(m, d)]) = max (c - b.sz) (gl b m (c + d) vs - b.par * (t - m))
  | [] => by
    show max (c - b.sz) (c + (d + 0) - b.sz - b.par * (t - m)) = max (c - b.sz) (c + d - b.sz - b.par * (t - m))
    rw [Int.add_zero]
  | v :: r => by
    show max (gl b t c (r ++ [(m, d)])) (c + (v.2 + sumc (r ++ [(m, d)])) - b.sz - b.par * (t - v.1)) = max (c - b.sz) (max (gl b m (c + d) r) (c + d + (v.2 + sumc r) - b.sz - b.par * (m - v.1)) - b.par * (t - m))
    rw [gl_add b t c m d r, sumc_append]
    have e : b.par * (t - v.1) = b.par * (t - m) + b.par * (m - v.1) := by rw [← Int.mul_add]; congr 1; omega
    have e2 : sumc [(m, d)] = d := by show d + 0 = d; omega
    rw [e, e2]
    omega
theorem ceil_max {p a b : Int} (hp : 0 < p) : (max a b + p - 1) / p = max ((a + p - 1) / p) ((b + p - 1) / p) := by
  rcases Int.le_total a b with h | h
  · rw [show max a b = b by omega, Int.max_eq_right (Int.ediv_le_ediv hp (by omega))]
  · rw [show max a b = a by omega, Int.max_eq_left (Int.ediv_le_ediv hp (by omega))]
theorem ceil_nonpos {p a : Int} (hp : 0 < p) (ha : a ≤ 0) : (a + p - 1) / p ≤ 0 := by
  have : (a + p - 1) / p < 1 := Int.ediv_lt_of_lt_mul hp (by omega)
  omega
theorem ceil_pos {p a : Int} (hp : 0 < p) (ha : 0 < a) : 0 < (a + p - 1) / p := by
  have h2 : 1 ≤ (a + p - 1) / p := (Int.le_ediv_iff_mul_le hp).mpr (by omega)
  omega
theorem wgo_jar0 {s t c : Int} (hc : c ≤ s) : ∀ {vs : Vs}, wgo (.jar s 0) t c vs = if gl (.jar s 0) t c vs ≤ 0 then some 0 else none
  | [] => (if_pos (show c - s ≤ 0 by omega)).symm
  | v :: r => by
    have ih := wgo_jar0 (s := s) (t := t) hc (vs := r)
    show (match wgo (.jar s 0) t c r with | none => none | some g => if s < c + sumc (v :: r) then (Bd.jar s 0).wnew g v.1 (c + sumc (v :: r)) t else some g) = if max (gl (.jar s 0) t c r) (c + sumc (v :: r) - s - 0 * (t - v.1)) ≤ 0 then some 0 else none
    rw [ih, Int.zero_mul]
    by_cases h : gl (.jar s 0) t c r ≤ 0
    · rw [if_pos h]
      show (if s < c + sumc (v :: r) then (Bd.jar s 0).wnew 0 v.1 (c + sumc (v :: r)) t else some 0) = _
      by_cases h2 : s < c + sumc (v :: r)
      · rw [if_pos h2, if_neg (by omega)]; exact wnew_zero kind_jar rfl _ _ _ _
      · rw [if_neg h2, if_pos (by omega)]
    · rw [if_neg h, if_neg (by omega)]
theorem wgo_jar {s f t c : Int} (hf : 0 < f) (hc : c ≤ s) : ∀ {vs : Vs}, (∀ p ∈ vs, p.1 ≤ t) → wgo (.jar s f) t c vs = some (max 0 ((gl (.jar s f) t c vs + f - 1) / f))
  | [], _ => by
    show some (0 : Int) = some (max 0 ((c - s + f - 1) / f))
    have := ceil_nonpos hf (show c - s ≤ 0 by omega)
    congr 1; omega
  | v :: r, ht => by
    have ih := wgo_jar hf hc (vs := r) fun p hp => ht p (List.mem_cons_of_mem _ hp)
    have hv := ht v List.mem_cons_self
    show (match wgo (.jar s f) t c r with | none => none | some g => if s < c + sumc (v :: r) then (Bd.jar s f).wnew g v.1 (c + sumc (v :: r)) t else some g) = some (max 0 ((max (gl (.jar s f) t c r) (c + sumc (v :: r) - s - f * (t - v.1)) + f - 1) / f))
    rw [ih, ceil_max hf]
    generalize (gl (.jar s f) t c r + f - 1) / f = g
    generalize c + sumc (v :: r) = u
    show (if s < u then (Bd.jar s f).wnew (max 0 g) v.1 u t else some (max 0 g)) = _
    have e : (u - s - f * (t - v.1) + f - 1) / f = (u - s + f - 1) / f - (t - v.1) := by
      rw [show u - s - f * (t - v.1) + f - 1 = (u - s + f - 1) + f * (-(t - v.1)) by rw [Int.mul_neg]; omega, Int.add_mul_ediv_left _ _ (by omega)]
      omega
    rw [e]
    by_cases h2 : s < u
    · rw [if_pos h2, show (Bd.jar s f).wnew (max 0 g) v.1 u t = _ from if_neg (by omega)]
      congr 1; omega
    · rw [if_neg h2]
      have := ceil_nonpos hf (show u - s ≤ 0 by omega)
      congr 1; omega
/-! the window -/
theorem wgo_win {m s t c : Int} : ∀ {vs : Vs}, ∃ f, wgo (.win m s) t c vs = some f ∧ 0 ≤ f
  | [] => ⟨0, rfl, Int.le_refl _⟩
  | v :: r => by
    obtain ⟨f, h, hf⟩ := wgo_win (m := m) (s := s) (t := t) (c := c) (vs := r)
    show ∃ g, (match wgo (.win m s) t c r with | none => none | some g => if m < c + sumc (v :: r) then some (max g (v.1 + s - t)) else some g) = some g ∧ 0 ≤ g
    rw [h]
    by_cases z : m < c + sumc (v :: r)
    · exact ⟨_, if_pos z, by omega⟩
    · exact ⟨_, if_neg z, hf⟩
def wmax (m s t c : Int) : Vs → Int
  | [] => 0
  | v :: r => if m < c + sumc (v :: r) then max (wmax m s t c r) (v.1 + s - t) else wmax m s t c r
theorem wgo_wmax {m s t c : Int} : ∀ {vs : Vs}, wgo (.win m s) t c vs = some (wmax m s t c vs)
  | [] => rfl
  | v :: r => by
    show (match wgo (.win m s) t c r with | none => none | some g => if m < c + sumc (v :: r) then some (max g (v.1 + s - t)) else some g) = some (if m < c + sumc (v :: r) then max (wmax m s t c r) (v.1 + s - t) else wmax m s t c r)
    rw [wgo_wmax]
    show (if m < c + sumc (v :: r) then some (max (wmax m s t c r) (v.1 + s - t)) else some (wmax m s t c r)) = _
    split <;> rfl
theorem wmax_nonneg {m s t c : Int} : ∀ {vs : Vs}, 0 ≤ wmax m s t c vs
  | [] => Int.le_refl _
  | v :: r => by
    have := wmax_nonneg (m := m) (s := s) (t := t) (c := c) (vs := r)
    show 0 ≤ if m < c + sumc (v :: r) then max (wmax m s t c r) (v.1 + s - t) else wmax m s t c r
    split <;> omega
theorem wmax_zero {m s t c a : Int} : ∀ {vs : Vs}, Row a vs → c + sumc vs ≤ m → wmax m s t c vs = 0
  | [], _, _ => rfl
  | v :: r, q, h => by
    show (if m < c + sumc (v :: r) then max (wmax m s t c r) (v.1 + s - t) else wmax m s t c r) = 0
    rw [if_neg (by omega)]
    have := q.2.1
    exact wmax_zero q.2.2.2 (by have e : sumc (v :: r) = v.2 + sumc r := rfl; omega)
/-- the ones out of the window tell nothing -/
theorem wmax_keep {m s t c a : Int} : ∀ {vs : Vs}, Row a vs → wmax m s t c vs = wmax m s t c (keepV s t vs)
  | [], _ => rfl
  | v :: r, q => by
    unfold keepV
    rw [List.filter_cons]
    by_cases h : t - s < v.1
    · rw [if_pos (decide_eq_true h)]
      have e : r.filter (fun p => decide (t - s < p.1)) = r := List.filter_eq_self.mpr fun p hp => decide_eq_true (by have := q.2.2.1 p hp; omega)
      rw [e]
    · rw [if_neg (by simpa using h)]
      have ih := wmax_keep (m := m) (s := s) (t := t) (c := c) q.2.2.2
      unfold keepV at ih
      rw [← ih]
      show (if m < c + sumc (v :: r) then max (wmax m s t c r) (v.1 + s - t) else wmax m s t c r) = _
      have := wmax_nonneg (m := m) (s := s) (t := t) (c := c) (vs := r)
      split <;> omega
theorem wloop_eq {m s t c a : Int} : ∀ {vs : Vs} {f0 : Int}, Row a vs → (∀ p ∈ vs, 0 ≤ p.1 + s - t) → wloop m s t vs (sumc vs + c) f0 = if m < c + sumc vs ∧ vs ≠ [] then wmax m s t c vs else f0
  | [], f0, _, _ => by rw [if_neg (fun z => z.2 rfl)]; rfl
  | v :: r, f0, q, hp => by
    show (if sumc (v :: r) + c ≤ m then f0 else wloop m s t r (sumc (v :: r) + c - v.2) (v.1 + s - t)) = _
    by_cases h : sumc (v :: r) + c ≤ m
    · rw [if_pos h, if_neg (by omega)]
    · rw [if_neg h, if_pos ⟨by omega, by simp⟩, show sumc (v :: r) + c - v.2 = sumc r + c by have e : sumc (v :: r) = v.2 + sumc r := rfl; omega]
      rw [wloop_eq q.2.2.2 fun p hq => hp p (List.mem_cons_of_mem _ hq)]
      rw [show wmax m s t c (v :: r) = max (wmax m s t c r) (v.1 + s - t) from if_pos (by omega)]
      have h0 := hp v List.mem_cons_self
      by_cases h2 : m < c + sumc r ∧ r ≠ []
      · rw [if_pos h2]
        cases r with
        | nil => exact absurd rfl h2.2
        | cons w r2 =>
          have h3 := q.2.2.1 w List.mem_cons_self
          have h4 : w.1 + s - t ≤ wmax m s t c (w :: r2) := by
            show _ ≤ if m < c + sumc (w :: r2) then max (wmax m s t c r2) (w.1 + s - t) else wmax m s t c r2
            rw [if_pos h2.1]; omega
          omega
      · rw [if_neg h2]
        have h5 : wmax m s t c r = 0 := by
          by_cases h6 : r = []
          · subst h6; rfl
          · exact wmax_zero q.2.2.2 (by
              have : ¬ m < c + sumc r := fun z => h2 ⟨z, h6⟩
              omega)
        rw [h5]; omega
theorem keep_keep {s t t2 : Int} (h : t ≤ t2) (vs : Vs) : keepV s t2 (keepV s t vs) = keepV s t2 vs := by
  unfold keepV
  rw [List.filter_filter]
  congr 1
  funext p
  by_cases h1 : t2 - s < p.1
  · rw [decide_eq_true h1, decide_eq_true (show t - s < p.1 by omega)]; rfl
  · rw [decide_eq_false h1]; rfl
/-! a meter that has taken these visits -/
inductive Tie (last : Int) (vs : Vs) : Bd → Mt → Prop where
  | jar {s f l t0 : Int} (h : ∀ t c, last ≤ t → c - Mt.lev s f l t0 t = gl (.jar s f) t c vs) : Tie last vs (.jar s f) (.jar s f l t0)
  | win {m s : Int} : Tie last vs (.win m s) (.win m s (keepV s last vs))
theorem Tie.new {b : Bd} (h : b.ok) : Tie 0 [] b b.meter := by
  cases b with
  | jar s f =>
    refine .jar fun t c ht => ?_
    show c - min s (s + f * (t - 0)) = c - s
    have := Int.mul_nonneg h.2.1 (show 0 ≤ t - 0 by omega)
    omega
  | win m s => exact .win
theorem Tie.add {last t c : Int} {vs : Vs} {b : Bd} {m : Mt} (h : Tie last vs b m) (ht : last ≤ t) (hb : b.ok) : Tie t (vs ++ [(t, c)]) b (m.take t c) := by
  cases h with
  | jar h =>
    refine .jar fun t2 c2 h2 => ?_
    rw [gl_add, ← h t (c2 + c) ht]
    show c2 - min _ _ = max (c2 - _) (_ - _ * _)
    show c2 - min _ (Mt.lev _ _ _ _ t - c + _) = _
    simp only [Bd.sz, Bd.par]
    omega
  | @win m s =>
    have e : (Mt.win m s (keepV s last vs)).take t c = .win m s (keepV s t (vs ++ [(t, c)])) := by
      show Mt.win m s (keepV s t (keepV s last vs) ++ [(t, c)]) = _
      rw [keep_keep ht]
      congr 1
      unfold keepV
      rw [List.filter_append]
      congr 1
      rw [List.filter_cons, if_pos (decide_eq_true (by have := hb.2.1; show t - s < t; omega))]
      rfl
    rw [e]
    exact .win
/-- the whole: the meter waits as the stretches say -/
theorem Tie.wait {last t c : Int} {vs : Vs} {b : Bd} {m : Mt} (h : Tie last vs b m) (ht : last ≤ t) (hb : b.ok) (hr : Row last vs) : m.wait t c = m_law_wait b vs t c := by
  cases h with
  | @jar s f l t0 h =>
    have e := h t c ht
    show (if c - Mt.lev s f l t0 t ≤ 0 then some 0 else if s < c ∨ f = 0 then none else some ((c - Mt.lev s f l t0 t + f - 1) / f)) = if s < c then none else wgo (.jar s f) t c vs
    rw [e]
    have hg : c - s ≤ gl (.jar s f) t c vs := gl_le t c vs
    have hf : 0 ≤ f := hb.2.1
    by_cases h1 : s < c
    · rw [if_neg (by omega), if_pos (.inl h1), if_pos h1]
    · rw [if_neg h1]
      by_cases h2 : f = 0
      · subst h2
        rw [wgo_jar0 (by omega)]
        by_cases h3 : gl (.jar s 0) t c vs ≤ 0
        · rw [if_pos h3, if_pos h3]
        · rw [if_neg h3, if_neg h3, if_pos (.inr rfl)]
      · rw [wgo_jar (by omega) (by omega) fun p hp => Int.le_trans (hr.top p hp) ht]
        by_cases h3 : gl (.jar s f) t c vs ≤ 0
        · rw [if_pos h3]
          have := ceil_nonpos (show 0 < f by omega) h3
          congr 1; omega
        · rw [if_neg h3, if_neg (by rintro (z | z) <;> omega)]
          have := ceil_pos (show 0 < f by omega) (show 0 < gl (.jar s f) t c vs by omega)
          congr 1; omega
  | @win m s =>
    show (if m < c then none else some (wloop m s t (keepV s t (keepV s last vs)) (sumc (keepV s t (keepV s last vs)) + c) 0)) = if m < c then none else wgo (.win m s) t c vs
    rw [keep_keep ht, wgo_wmax, wmax_keep hr]
    by_cases h1 : m < c
    · rw [if_pos h1, if_pos h1]
    · rw [if_neg h1, if_neg h1]
      have hr2 : Row last (keepV s t vs) := hr.filter _
      rw [wloop_eq hr2 fun p hp => by have := of_decide_eq_true (List.mem_filter.mp hp).2; omega]
      by_cases h2 : m < c + sumc (keepV s t vs) ∧ keepV s t vs ≠ []
      · rw [if_pos h2]
      · rw [if_neg h2]
        congr 1
        by_cases h6 : keepV s t vs = []
        · rw [h6]; rfl
        · exact (wmax_zero hr2 (by
            have : ¬ m < c + sumc (keepV s t vs) := fun z => h2 ⟨z, h6⟩
            omega)).symm
theorem Tie.kept {last : Int} {vs : Vs} {b : Bd} {m : Mt} (h : Tie last vs b m) : m.kept = match b with | .jar .. => 0 | .win _ s => (keepV s last vs).length := by
  cases h <;> rfl

/-! ### what the meters' methods do -/
def jmF (s f l t : Int) : List (Str × Dv) := [("most", .int s), ("flow", .int f), ("level", .int l), ("last", .int t)]
def wmF (m s : Int) (rows : Vs) : List (Str × Dv) := [("most", .int m), ("span", .int s), ("rows", .lst (rows.map encV.dv))]
def Mt.mo (A : Ad) : Mt → MO
  | .jar s f l t => .ins A.CJM (jmF s f l t)
  | .win m s rows => .ins A.CWM (wmF m s rows)
def Mt.ok : Mt → Prop
  | .jar _ f _ _ => 0 ≤ f ∧ f ≤ 1000000000
  | .win _ _ rows => rows.length ≤ 100000
theorem jmF_most (s f l t : Int) : (jmF s f l t).lookup ("most" : Str) = some (.int s) := lookup_hit
theorem jmF_flow (s f l t : Int) : (jmF s f l t).lookup ("flow" : Str) = some (.int f) := (lookup_miss (by decide +kernel)).trans lookup_hit
theorem jmF_level (s f l t : Int) : (jmF s f l t).lookup ("level" : Str) = some (.int l) := (lookup_miss (by decide +kernel)).trans ((lookup_miss (by decide +kernel)).trans lookup_hit)
theorem jmF_last (s f l t : Int) : (jmF s f l t).lookup ("last" : Str) = some (.int t) := (lookup_miss (by decide +kernel)).trans ((lookup_miss (by decide +kernel)).trans ((lookup_miss (by decide +kernel)).trans lookup_hit))
theorem jmF_no (s f l t : Int) {g : Str} (h1 : ¬ g = "most") (h2 : ¬ g = "flow") (h3 : ¬ g = "level") (h4 : ¬ g = "last") : (jmF s f l t).lookup g = none := (lookup_miss h1).trans ((lookup_miss h2).trans ((lookup_miss h3).trans (lookup_miss h4)))
theorem wmF_most (m s : Int) (r : Vs) : (wmF m s r).lookup ("most" : Str) = some (.int m) := lookup_hit
theorem wmF_span (m s : Int) (r : Vs) : (wmF m s r).lookup ("span" : Str) = some (.int s) := (lookup_miss (by decide +kernel)).trans lookup_hit
theorem wmF_rows (m s : Int) (r : Vs) : (wmF m s r).lookup ("rows" : Str) = some (.lst (r.map encV.dv)) := (lookup_miss (by decide +kernel)).trans ((lookup_miss (by decide +kernel)).trans lookup_hit)
theorem wmF_no (m s : Int) (r : Vs) {g : Str} (h1 : ¬ g = "most") (h2 : ¬ g = "span") (h3 : ¬ g = "rows") : (wmF m s r).lookup g = none := (lookup_miss h1).trans ((lookup_miss h2).trans (lookup_miss h3))
theorem jm_init (a b c d : Dv) : putD "last" d (putD "level" c (putD "flow" b (putD "most" a []))) = ([("most", a), ("flow", b), ("level", c), ("last", d)] : List (Str × Dv)) := by
  rw [putD_nil (f := "most"), putD_miss (f := "flow") (g := "most") (by decide +kernel), putD_nil (f := "flow"), putD_miss (f := "level") (g := "most") (by decide +kernel), putD_miss (f := "level") (g := "flow") (by decide +kernel), putD_nil (f := "level"), putD_miss (f := "last") (g := "most") (by decide +kernel), putD_miss (f := "last") (g := "flow") (by decide +kernel), putD_miss (f := "last") (g := "level") (by decide +kernel), putD_nil (f := "last")]
theorem wm_init (a b c : Dv) : putD "rows" c (putD "span" b (putD "most" a [])) = ([("most", a), ("span", b), ("rows", c)] : List (Str × Dv)) := by
  rw [putD_nil (f := "most"), putD_miss (f := "span") (g := "most") (by decide +kernel), putD_nil (f := "span"), putD_miss (f := "rows") (g := "most") (by decide +kernel), putD_miss (f := "rows") (g := "span") (by decide +kernel), putD_nil (f := "rows")]
theorem jm_take (s f l t l2 t2 : Int) : putD "last" (.int t2) (putD "level" (.int l2) (jmF s f l t)) = jmF s f l2 t2 := by
  unfold jmF
  rw [putD_miss (f := "level") (g := "most") (by decide +kernel), putD_miss (f := "level") (g := "flow") (by decide +kernel), putD_hit, putD_miss (f := "last") (g := "most") (by decide +kernel), putD_miss (f := "last") (g := "flow") (by decide +kernel), putD_miss (f := "last") (g := "level") (by decide +kernel), putD_hit]
theorem wm_take (m s : Int) (r r2 : Vs) : putD "rows" (.lst (r2.map encV.dv)) (wmF m s r) = wmF m s r2 := by
  unfold wmF
  rw [putD_miss (by decide +kernel), putD_miss (by decide +kernel), putD_hit]
theorem keep_len (s t : Int) (vs : Vs) : (keepV s t vs).length ≤ vs.length := List.length_filter_le _ _
theorem Mt.ok_take {b : Bd} {vs : Vs} {last t c : Int} {m : Mt} (h : Tie last vs b m) (hb : b.ok) (hl : vs.length ≤ 99999) : (m.take t c).ok := by
  cases h with
  | jar h => exact hb.2
  | @win m s =>
    show (keepV s t (keepV s last vs) ++ [(t, c)]).length ≤ 100000
    have h1 := keep_len s last vs
    have h2 := keep_len s t (keepV s last vs)
    rw [List.length_append]
    simp only [List.length_cons, List.length_nil]
    omega
theorem Tie.ok {b : Bd} {vs : Vs} {last : Int} {m : Mt} (h : Tie last vs b m) (hb : b.ok) (hl : vs.length ≤ 100000) : m.ok := by
  cases h with
  | jar h => exact hb.2
  | win => exact Nat.le_trans (List.length_filter_le _ _) hl
section
def S_JarMeter_init (A : Ad) : DSp := fun ds μ kd _ => ∃ (a : Addr) (s f : Int), ds = [.obj a, .int s, .int f] ∧ μ a = some (.ins A.CJM []) ∧ kd .non (updM μ a (Mt.mo A (Bd.jar s f).meter))
def S_WindowMeter_init (A : Ad) : DSp := fun ds μ kd _ => ∃ (a : Addr) (m s : Int), ds = [.obj a, .int m, .int s] ∧ μ a = some (.ins A.CWM []) ∧ kd .non (updM μ a (Mt.mo A (Bd.win m s).meter))
def S_JarMeter_level_at (A : Ad) : DSp := fun ds μ kd _ => ∃ (a : Addr) (s f l t0 t : Int), ds = [.obj a, .int t] ∧ μ a = some (Mt.mo A (.jar s f l t0)) ∧ (Mt.jar s f l t0).ok ∧ kd (.int (Mt.lev s f l t0 t)) μ
def S_JarMeter_wait (A : Ad) : DSp := fun ds μ kd _ => ∃ (a : Addr) (s f l t0 t c : Int), ds = [.obj a, .int t, .int c] ∧ μ a = some (Mt.mo A (.jar s f l t0)) ∧ (Mt.jar s f l t0).ok ∧ kd (opI ((Mt.jar s f l t0).wait t c)) μ
def S_WindowMeter_wait (A : Ad) : DSp := fun ds μ kd _ => ∃ (a : Addr) (m s : Int) (r : Vs) (t c : Int), ds = [.obj a, .int t, .int c] ∧ μ a = some (Mt.mo A (.win m s r)) ∧ (Mt.win m s r).ok ∧ kd (opI ((Mt.win m s r).wait t c)) μ
def S_JarMeter_take (A : Ad) : DSp := fun ds μ kd _ => ∃ (a : Addr) (s f l t0 t c : Int), ds = [.obj a, .int t, .int c] ∧ μ a = some (Mt.mo A (.jar s f l t0)) ∧ (Mt.jar s f l t0).ok ∧ kd .non (updM μ a (Mt.mo A ((Mt.jar s f l t0).take t c)))
def S_WindowMeter_take (A : Ad) : DSp := fun ds μ kd _ => ∃ (a : Addr) (m s : Int) (r : Vs) (t c : Int), ds = [.obj a, .int t, .int c] ∧ μ a = some (Mt.mo A (.win m s r)) ∧ (Mt.win m s r).ok ∧ kd .non (updM μ a (Mt.mo A ((Mt.win m s r).take t c)))
def S_Meter_can (A : Ad) : DSp := fun ds μ kd _ => ∃ (a : Addr) (m : Mt) (t c : Int), ds = [.obj a, .int t, .int c] ∧ μ a = some (Mt.mo A m) ∧ m.ok ∧ kd (.bl (decide (m.wait t c = some 0))) μ
def S_Meter_kept (A : Ad) : DSp := fun ds μ kd _ => ∃ (a : Addr), ds = [.obj a] ∧ kd (.int 0) μ
def S_WindowMeter_kept (A : Ad) : DSp := fun ds μ kd _ => ∃ (a : Addr) (m s : Int) (r : Vs), ds = [.obj a] ∧ μ a = some (Mt.mo A (.win m s r)) ∧ (Mt.win m s r).ok ∧ kd (.int r.length) μ
def S_Jar_meter (A : Ad) : DSp := fun ds μ kd _ => ∃ (s f : Int), ds = [(Bd.jar s f).pv A] ∧ ∀ a, μ a = none → kd (.obj a) (updM μ a (Mt.mo A (Bd.jar s f).meter))
def S_Window_meter (A : Ad) : DSp := fun ds μ kd _ => ∃ (m s : Int), ds = [(Bd.win m s).pv A] ∧ ∀ a, μ a = none → kd (.obj a) (updM μ a (Mt.mo A (Bd.win m s).meter))
end
section
variable {X : Cx} {W : WX} {KE : XD} {e o : Expr} {es : List Expr} {n : En} {μ : M} {k : DK} {pos apos : Pos} {kl : Nat} {A : Ad} {pl : Sem Bool} {j : Nat}
theorem je_wait (c : Cok kl X W) (MJ : DMet X.prog X.w X.K X.mg X.base j A.CJM "wait" (S_JarMeter_wait A) []) {i : Nat} (MW : DMet X.prog X.w X.K X.mg X.base i A.CWM "wait" (S_WindowMeter_wait A) []) (hj : j ≤ kl) (hi : i ≤ kl)
    (h : JE X W KE o n μ fun d μ1 => ∃ a m, d = .obj a ∧ μ1 a = some (Mt.mo A m) ∧ JA X W KE (e :: es) n μ1 fun ds μ2 => ∃ t c : Int, ds = [.int t, .int c] ∧ μ2 a = some (Mt.mo A m) ∧ m.ok ∧ k (opI (m.wait t c)) μ2)
    (hst : starEach (e :: es) X.env = (false, eval e X.env) :: starEach es X.env := by rfl) (hpl : (backTo pos (starEach es X.env)).any (·.1) = false := by rfl)
    (ht : eval (.Call (.Attribute o "wait" apos) (e :: es) [] pos) X.env = (do
      let ov ← eval o X.env
      standAt apos.atName
      let (f, first) ← holding [ov] (getMethod ov "wait" pl)
      callWith pos f first (backTo pos (starEach (e :: es) X.env)) (backToKw pos (keywordEach [] X.env))) := by rfl) : JE X W KE (.Call (.Attribute o "wait" apos) (e :: es) [] pos) n μ k := by
  refine je_meth c (h.mono fun d μ1 ⟨a, m, e1, ha, h1⟩ => ?_) hst hpl ht
  subst e1
  cases m with
  | jar s f l t => exact ⟨_, _, _, _, _, .obj ha, jmF_no _ _ _ _ (by decide +kernel) (by decide +kernel) (by decide +kernel) (by decide +kernel), MJ, hj, fun σ H Q a b c d => h1 σ H Q a b c fun vs ds H' μ' ⟨x, y, e2, hm, hok, hk⟩ => d vs ds H' μ' (by subst e2; exact ⟨_, s, f, l, t, x, y, rfl, hm, hok, hk⟩)⟩
  | win s f r => exact ⟨_, _, _, _, _, .obj ha, wmF_no _ _ _ (by decide +kernel) (by decide +kernel) (by decide +kernel), MW, hi, fun σ H Q a b c d => h1 σ H Q a b c fun vs ds H' μ' ⟨x, y, e2, hm, hok, hk⟩ => d vs ds H' μ' (by subst e2; exact ⟨_, s, f, r, x, y, rfl, hm, hok, hk⟩)⟩
theorem je_take (c : Cok kl X W) (MJ : DMet X.prog X.w X.K X.mg X.base j A.CJM "take" (S_JarMeter_take A) []) {i : Nat} (MW : DMet X.prog X.w X.K X.mg X.base i A.CWM "take" (S_WindowMeter_take A) []) (hj : j ≤ kl) (hi : i ≤ kl)
    (h : JE X W KE o n μ fun d μ1 => ∃ a m, d = .obj a ∧ μ1 a = some (Mt.mo A m) ∧ JA X W KE (e :: es) n μ1 fun ds μ2 => ∃ t c : Int, ds = [.int t, .int c] ∧ μ2 a = some (Mt.mo A m) ∧ m.ok ∧ k .non (updM μ2 a (Mt.mo A (m.take t c))))
    (hst : starEach (e :: es) X.env = (false, eval e X.env) :: starEach es X.env := by rfl) (hpl : (backTo pos (starEach es X.env)).any (·.1) = false := by rfl)
    (ht : eval (.Call (.Attribute o "take" apos) (e :: es) [] pos) X.env = (do
      let ov ← eval o X.env
      standAt apos.atName
      let (f, first) ← holding [ov] (getMethod ov "take" pl)
      callWith pos f first (backTo pos (starEach (e :: es) X.env)) (backToKw pos (keywordEach [] X.env))) := by rfl) : JE X W KE (.Call (.Attribute o "take" apos) (e :: es) [] pos) n μ k := by
  refine je_meth c (h.mono fun d μ1 ⟨a, m, e1, ha, h1⟩ => ?_) hst hpl ht
  subst e1
  cases m with
  | jar s f l t => exact ⟨_, _, _, _, _, .obj ha, jmF_no _ _ _ _ (by decide +kernel) (by decide +kernel) (by decide +kernel) (by decide +kernel), MJ, hj, fun σ H Q a b c d => h1 σ H Q a b c fun vs ds H' μ' ⟨x, y, e2, hm, hok, hk⟩ => d vs ds H' μ' (by subst e2; exact ⟨_, s, f, l, t, x, y, rfl, hm, hok, hk⟩)⟩
  | win s f r => exact ⟨_, _, _, _, _, .obj ha, wmF_no _ _ _ (by decide +kernel) (by decide +kernel) (by decide +kernel), MW, hi, fun σ H Q a b c d => h1 σ H Q a b c fun vs ds H' μ' ⟨x, y, e2, hm, hok, hk⟩ => d vs ds H' μ' (by subst e2; exact ⟨_, s, f, r, x, y, rfl, hm, hok, hk⟩)⟩
theorem je_can (c : Cok kl X W) (MJ : DMet X.prog X.w X.K X.mg X.base j A.CJM "can" (S_Meter_can A) []) (MW : DMet X.prog X.w X.K X.mg X.base j A.CWM "can" (S_Meter_can A) []) (hj : j ≤ kl)
    (h : JE X W KE o n μ fun d μ1 => ∃ a m, d = .obj a ∧ μ1 a = some (Mt.mo A m) ∧ JA X W KE (e :: es) n μ1 fun ds μ2 => ∃ t c : Int, ds = [.int t, .int c] ∧ μ2 a = some (Mt.mo A m) ∧ m.ok ∧ k (.bl (decide (m.wait t c = some 0))) μ2)
    (hst : starEach (e :: es) X.env = (false, eval e X.env) :: starEach es X.env := by rfl) (hpl : (backTo pos (starEach es X.env)).any (·.1) = false := by rfl)
    (ht : eval (.Call (.Attribute o "can" apos) (e :: es) [] pos) X.env = (do
      let ov ← eval o X.env
      standAt apos.atName
      let (f, first) ← holding [ov] (getMethod ov "can" pl)
      callWith pos f first (backTo pos (starEach (e :: es) X.env)) (backToKw pos (keywordEach [] X.env))) := by rfl) : JE X W KE (.Call (.Attribute o "can" apos) (e :: es) [] pos) n μ k := by
  refine je_meth c (h.mono fun d μ1 ⟨a, m, e1, ha, h1⟩ => ?_) hst hpl ht
  subst e1
  cases m with
  | jar s f l t => exact ⟨_, _, _, _, _, .obj ha, jmF_no _ _ _ _ (by decide +kernel) (by decide +kernel) (by decide +kernel) (by decide +kernel), MJ, hj, fun σ H Q a b c d => h1 σ H Q a b c fun vs ds H' μ' ⟨x, y, e2, hm, hok, hk⟩ => d vs ds H' μ' (by subst e2; exact ⟨_, .jar s f l t, x, y, rfl, hm, hok, hk⟩)⟩
  | win s f r => exact ⟨_, _, _, _, _, .obj ha, wmF_no _ _ _ (by decide +kernel) (by decide +kernel) (by decide +kernel), MW, hj, fun σ H Q a b c d => h1 σ H Q a b c fun vs ds H' μ' ⟨x, y, e2, hm, hok, hk⟩ => d vs ds H' μ' (by subst e2; exact ⟨_, .win s f r, x, y, rfl, hm, hok, hk⟩)⟩
theorem je_kept (c : Cok kl X W) (MJ : DMet X.prog X.w X.K X.mg X.base j A.CJM "kept" (S_Meter_kept A) []) {i : Nat} (MW : DMet X.prog X.w X.K X.mg X.base i A.CWM "kept" (S_WindowMeter_kept A) []) (hj : j ≤ kl) (hi : i ≤ kl)
    (h : JE X W KE o n μ fun d μ1 => ∃ a m, d = .obj a ∧ μ1 a = some (Mt.mo A m) ∧ m.ok ∧ k (.int m.kept) μ1)
    (ht : eval (.Call (.Attribute o "kept" apos) [] [] pos) X.env = (do
      let ov ← eval o X.env
      standAt apos.atName
      let (f, first) ← holding [ov] (getMethod ov "kept" pl)
      callWith pos f first (backTo pos (starEach [] X.env)) (backToKw pos (keywordEach [] X.env))) := by rfl) : JE X W KE (.Call (.Attribute o "kept" apos) [] [] pos) n μ k := by
  refine je_meth0 c (h.mono fun d μ1 ⟨a, m, e1, ha, hok, h1⟩ => ?_) ht
  subst e1
  cases m with
  | jar s f l t => exact ⟨_, _, _, _, _, .obj ha, jmF_no _ _ _ _ (by decide +kernel) (by decide +kernel) (by decide +kernel) (by decide +kernel), MJ, hj, ⟨_, rfl, h1⟩⟩
  | win s f r => exact ⟨_, _, _, _, _, .obj ha, wmF_no _ _ _ (by decide +kernel) (by decide +kernel) (by decide +kernel), MW, hi, ⟨_, s, f, r, rfl, ha, hok, h1⟩⟩
/-- bound.meter() of any bound -/
theorem je_bmeter (c : Cok kl X W) (MJ : DMet X.prog X.w X.K X.mg X.base j A.CJ "meter" (S_Jar_meter A) []) (MW : DMet X.prog X.w X.K X.mg X.base j A.CW "meter" (S_Window_meter A) []) (hj : j ≤ kl)
    (h : JE X W KE o n μ fun d μ1 => ∃ b : Bd, d = b.pv A ∧ ∀ a, μ1 a = none → k (.obj a) (updM μ1 a (Mt.mo A b.meter)))
    (ht : eval (.Call (.Attribute o "meter" apos) [] [] pos) X.env = (do
      let ov ← eval o X.env
      standAt apos.atName
      let (f, first) ← holding [ov] (getMethod ov "meter" pl)
      callWith pos f first (backTo pos (starEach [] X.env)) (backToKw pos (keywordEach [] X.env))) := by rfl) : JE X W KE (.Call (.Attribute o "meter" apos) [] [] pos) n μ k := by
  refine je_meth0 c (h.mono fun d μ1 ⟨b, e1, h1⟩ => ?_) ht
  subst e1
  cases b with
  | jar s f => exact ⟨_, _, _, _, _, .ins _ _, jarF_no _ _ (by decide +kernel) (by decide +kernel), MJ, hj, ⟨s, f, rfl, h1⟩⟩
  | win s f => exact ⟨_, _, _, _, _, .ins _ _, winF_no _ _ (by decide +kernel) (by decide +kernel), MW, hj, ⟨s, f, rfl, h1⟩⟩
end
theorem fm_keep (s t : Int) (xs : Vs) : xs.filterMap (fun p => if t - s < p.1 then some (encV.dv p) else none) = (keepV s t xs).map encV.dv := fm_if (fun p : Int × Int => t - s < p.1) encV.dv xs
theorem fm_costs (xs : Vs) : xs.filterMap (fun p : Int × Int => some (Dv.int p.2)) = (xs.map (·.2)).map Dv.int := fm_int (fun p : Int × Int => p.2) xs


/-! ### pairs of lists -/
inductive All2 {α β : Type} (R : α → β → Prop) : List α → List β → Prop where
  | nil : All2 R [] []
  | cons {a : α} {b : β} {as : List α} {bs : List β} (h : R a b) (t : All2 R as bs) : All2 R (a :: as) (b :: bs)
theorem All2.mono {α β : Type} {R S : α → β → Prop} (m : ∀ a b, R a b → S a b) : ∀ {as : List α} {bs : List β}, All2 R as bs → All2 S as bs
  | _, _, .nil => .nil
  | _, _, .cons h t => .cons (m _ _ h) (t.mono m)
theorem All2.length {α β : Type} {R : α → β → Prop} : ∀ {as : List α} {bs : List β}, All2 R as bs → as.length = bs.length
  | _, _, .nil => rfl
  | _, _, .cons _ t => congrArg (· + 1) t.length
theorem All2.get {α β : Type} {R : α → β → Prop} : ∀ {as : List α} {bs : List β} {i : Nat} {a : α}, All2 R as bs → as[i]? = some a → ∃ b, bs[i]? = some b ∧ R a b
  | _, _, 0, _, .cons h _, e => by cases e; exact ⟨_, rfl, h⟩
  | _, _, i + 1, _, .cons _ t, e => t.get (i := i) e
theorem All2.get' {α β : Type} {R : α → β → Prop} : ∀ {as : List α} {bs : List β} {i : Nat} {b : β}, All2 R as bs → bs[i]? = some b → ∃ a, as[i]? = some a ∧ R a b
  | _, _, 0, _, .cons h _, e => by cases e; exact ⟨_, rfl, h⟩
  | _, _, i + 1, _, .cons _ t, e => t.get' (i := i) e
theorem All2.append {α β : Type} {R : α → β → Prop} : ∀ {as cs : List α} {bs ds : List β}, All2 R as bs → All2 R cs ds → All2 R (as ++ cs) (bs ++ ds)
  | _, _, _, _, .nil, q => q
  | _, _, _, _, .cons h t, q => .cons h (t.append q)
theorem All2.monoIn {α β : Type} {R S : α → β → Prop} : ∀ {as : List α} {bs : List β}, (∀ a b, a ∈ as → R a b → S a b) → All2 R as bs → All2 S as bs
  | _, _, _, .nil => .nil
  | _, _, m, .cons h t => .cons (m _ _ List.mem_cons_self h) (t.monoIn fun a b ha => m a b (List.mem_cons_of_mem _ ha))
theorem all2_get {α β : Type} {R : α → β → Prop} : ∀ {as : List α} {bs : List β}, as.length = bs.length → (∀ (j : Nat) (a : α) (b : β), as[j]? = some a → bs[j]? = some b → R a b) → All2 R as bs
  | [], [], _, _ => .nil
  | a :: as, b :: bs, h, r => .cons (r 0 a b rfl rfl) (all2_get (Nat.succ.inj h) fun j x y p q => r (j + 1) x y p q)
theorem All2.zip {α β : Type} {R : α → β → Prop} : ∀ {as : List α} {bs : List β}, All2 R as bs → ∃ ps : List (α × β), ps.map (·.1) = as ∧ ps.map (·.2) = bs ∧ ∀ p ∈ ps, R p.1 p.2
  | _, _, .nil => ⟨[], rfl, rfl, fun p h => (nomatch h)⟩
  | a :: as, b :: bs, .cons h t => by
    obtain ⟨ps, e1, e2, e3⟩ := t.zip
    refine ⟨(a, b) :: ps, by rw [List.map_cons, e1], by rw [List.map_cons, e2], fun p hp => ?_⟩
    rcases List.mem_cons.mp hp with rfl | hp
    · exact h
    · exact e3 p hp

/-! ### the gate -/
/-- what a gate answers -/
inductive Ans where
  | opn | shut (own : Bool) (k : Nat) (w : Option Int)
  deriving DecidableEq
def Ans.dv : Ans → Dv
  | .opn => .tup [.str "open"]
  | .shut o k w => .tup [.str "shut", .str (if o then "own" else "common"), .int (k : Int), opI w]
def maxL : List Int → Int
  | [] => 0
  | [x] => x
  | x :: y :: r => max x (maxL (y :: r))
theorem maxL_mem : ∀ {ns : List Int}, ns ≠ [] → maxL ns ∈ ns
  | [x], _ => List.mem_singleton.mpr rfl
  | x :: y :: r, _ => by
    have ih := maxL_mem (ns := y :: r) (by simp)
    show max x (maxL (y :: r)) ∈ _
    rcases Int.le_total x (maxL (y :: r)) with h | h
    · rw [Int.max_eq_right h]; exact List.mem_cons_of_mem _ ih
    · rw [Int.max_eq_left h]; exact List.mem_cons_self
theorem maxL_le : ∀ {ns : List Int} {y : Int}, y ∈ ns → y ≤ maxL ns
  | [x], y, h => by cases List.mem_singleton.mp h; exact Int.le_refl _
  | x :: z :: r, y, h => by
    show y ≤ max x (maxL (z :: r))
    rcases List.mem_cons.mp h with rfl | h
    · omega
    · have := maxL_le h; omega
theorem maxL_uniq {ns : List Int} {m : Int} (h1 : m ∈ ns) (h2 : ∀ y ∈ ns, y ≤ m) : m = maxL ns := by
  have a := maxL_le h1
  have b := h2 _ (maxL_mem (List.ne_nil_of_mem h1))
  omega
/-- the numbers among some -/
def nums : List (Option Int) → List Int := List.filterMap id
def waitOf (ws : List (Option Int)) : Option Int := if none ∈ ws then none else some (maxL (nums ws))
def shutL (ws : List (Option Int)) : List Nat := (List.range ws.length).filter fun k => decide (ws.getD k none ≠ some 0)
def ansOf (ws : List (Option Int)) (many : Nat) : Ans := match shutL ws with
  | [] => .opn
  | k :: _ => if k < many then .shut true k (waitOf ws) else .shut false (k - many) (waitOf ws)
def waitsOf (bs : List Bd) (vs : Vs) (t c : Int) : List (Option Int) := bs.map fun b => m_law_wait b vs t c
theorem fm_bl {α : Type} (f : α → Bool) (xs : List α) : xs.filterMap (fun p => some (Dv.bl (f p))) = (xs.map f).map Dv.bl := by
  rw [fm_some (fun p => Dv.bl (f p)), List.map_map]; rfl
section
variable {K : Kf} {mg : Str → Option Value} {A : Ad} {μ : M} {k : DK}
theorem d_isBd (T : Txt K mg A) (b : Bd) (h : k (.bl true) μ) : DCl K (rIsiA K) [b.pv A, .tup [.obj A.CJ, .obj A.CW]] μ k := by
  cases b with
  | jar s f => exact d_isiT (.ins (.ins _ _) T.cl_Jar T.ic_Jar T.isn T.ist T.im_Jar) (.cons (.own _) (.cons (.own _) .nil)) (kitAny_cons T.kit_Jar_Jar (fun z => nomatch z) fun _ => rfl) h
  | win s f => exact d_isiT (.ins (.ins _ _) T.cl_Window T.ic_Window T.isn T.ist T.im_Window) (.cons (.own _) (.cons (.own _) .nil)) (kitAny_cons T.kit_Window_Jar (fun _ => kitAny_cons T.kit_Window_Window (fun z => nomatch z) fun _ => rfl) fun z => nomatch z) h
end
/-! the gate's store -/
def gtF (A : Ad) (own : List Bd) (cas : List Addr) (pd : Addr) (latest : Int) : List (Str × Dv) :=
  [("own", .tup (own.map (Bd.pv A))), ("common", .lst (cas.map Dv.obj)), ("people", .obj pd), ("latest", .int latest)]
theorem gtF_own (A : Ad) (own : List Bd) (cas : List Addr) (pd : Addr) (latest : Int) : (gtF A own cas pd latest).lookup ("own" : Str) = some (.tup (own.map (Bd.pv A))) := lookup_hit
theorem gtF_common (A : Ad) (own : List Bd) (cas : List Addr) (pd : Addr) (latest : Int) : (gtF A own cas pd latest).lookup ("common" : Str) = some (.lst (cas.map Dv.obj)) := (lookup_miss (by decide +kernel)).trans lookup_hit
theorem gtF_people (A : Ad) (own : List Bd) (cas : List Addr) (pd : Addr) (latest : Int) : (gtF A own cas pd latest).lookup ("people" : Str) = some (.obj pd) := (lookup_miss (by decide +kernel)).trans ((lookup_miss (by decide +kernel)).trans lookup_hit)
theorem gtF_latest (A : Ad) (own : List Bd) (cas : List Addr) (pd : Addr) (latest : Int) : (gtF A own cas pd latest).lookup ("latest" : Str) = some (.int latest) := (lookup_miss (by decide +kernel)).trans ((lookup_miss (by decide +kernel)).trans ((lookup_miss (by decide +kernel)).trans lookup_hit))
theorem gtF_no (A : Ad) (own : List Bd) (cas : List Addr) (pd : Addr) (latest : Int) {g : Str} (h1 : ¬ g = "own") (h2 : ¬ g = "common") (h3 : ¬ g = "people") (h4 : ¬ g = "latest") : (gtF A own cas pd latest).lookup g = none := (lookup_miss h1).trans ((lookup_miss h2).trans ((lookup_miss h3).trans (lookup_miss h4)))
theorem gt_init (a b c d : Dv) : putD "latest" d (putD "people" c (putD "common" b (putD "own" a []))) = ([("own", a), ("common", b), ("people", c), ("latest", d)] : List (Str × Dv)) := by
  rw [putD_nil (f := "own"), putD_miss (f := "common") (g := "own") (by decide +kernel), putD_nil (f := "common"), putD_miss (f := "people") (g := "own") (by decide +kernel), putD_miss (f := "people") (g := "common") (by decide +kernel), putD_nil (f := "people"), putD_miss (f := "latest") (g := "own") (by decide +kernel), putD_miss (f := "latest") (g := "common") (by decide +kernel), putD_miss (f := "latest") (g := "people") (by decide +kernel), putD_nil (f := "latest")]
theorem gt_latest (A : Ad) (own : List Bd) (cas : List Addr) (pd : Addr) (l l2 : Int) : putD "latest" (.int l2) (gtF A own cas pd l) = gtF A own cas pd l2 := by
  unfold gtF
  rw [putD_miss (f := "latest") (g := "own") (by decide +kernel), putD_miss (f := "latest") (g := "common") (by decide +kernel), putD_miss (f := "latest") (g := "people") (by decide +kernel), putD_hit]
/-- these meters have taken these visits -/
def MetsT (A : Ad) (μ : M) (last : Int) (vs : Vs) (as : List Addr) (bs : List Bd) : Prop := All2 (fun a b => ∃ m, μ a = some (Mt.mo A m) ∧ Tie last vs b m) as bs
theorem MetsT.ext {A : Ad} {μ μ' : M} {last : Int} {vs : Vs} {as : List Addr} {bs : List Bd} (h : MetsT A μ last vs as bs) (e : ExtM μ μ') : MetsT A μ' last vs as bs := All2.mono (fun _ _ ⟨m, h1, h2⟩ => ⟨m, e _ _ h1, h2⟩) h
/-- the moment of the last visit -/
def lastOf (vs : Vs) : Int := match vs.getLast? with
  | none => 0
  | some p => p.1
theorem lastOf_snoc (vs : Vs) (t c : Int) : lastOf (vs ++ [(t, c)]) = t := by
  unfold lastOf
  rw [List.getLast?_append]
  rfl
def keptB (b : Bd) (last : Int) (vs : Vs) : Nat := match b with
  | .jar .. => 0
  | .win _ s => (keepV s last vs).length
def pasD (pas : List (Str × List Addr)) : List (Key × Dv) := pas.map fun p => (.inr p.1, .lst (p.2.map Dv.obj))
/-- a person's meters stand for that person's visits -/
def Person (A : Ad) (μ : M) (own : List Bd) (latest : Int) (p : Str × List Addr) (q : Str × Vs) : Prop := p.1 = q.1 ∧ ∃ last, last ≤ latest ∧ MetsT A μ last q.2 p.2 own ∧ Row last q.2 ∧ q.2.length ≤ 1000 ∧ last = lastOf q.2
structure GateAt (A : Ad) (μ : M) (g : Addr) (own common : List Bd) (people : List (Str × Vs)) (all : Vs) (latest : Int) (pd : Addr) (cas : List Addr) (pas : List (Str × List Addr)) : Prop where
  obj : μ g = some (.ins A.CG (gtF A own cas pd latest))
  dic : μ pd = some (.dic (pasD pas))
  com : MetsT A μ latest all cas common
  ppl : All2 (Person A μ own latest) pas people
  kn : (pas.map (·.1)).Nodup
  cn : cas.Nodup
  pn : ∀ p ∈ pas, p.2.Nodup ∧ ∀ a ∈ p.2, a ∉ cas
  pp : ∀ p ∈ pas, ∀ q ∈ pas, p.1 ≠ q.1 → ∀ a ∈ p.2, a ∉ q.2
  gc : g ∉ cas
  gp : ∀ p ∈ pas, g ∉ p.2
  row : Row latest all
  len : all.length ≤ 1000
  okO : ∀ b ∈ own, b.ok
  okC : ∀ b ∈ common, b.ok
  lO : own.length ≤ 4
  lC : common.length ≤ 4
  l0 : 0 ≤ latest
  lt : latest = lastOf all
theorem GateAt.ext {A : Ad} {μ μ' : M} {g : Addr} {own common : List Bd} {people : List (Str × Vs)} {all : Vs} {latest : Int} {pd : Addr} {cas : List Addr} {pas : List (Str × List Addr)} (h : GateAt A μ g own common people all latest pd cas pas) (e : ExtM μ μ') : GateAt A μ' g own common people all latest pd cas pas :=
  { h with obj := e _ _ h.obj, dic := e _ _ h.dic, com := h.com.ext e, ppl := h.ppl.mono fun _ _ ⟨q, last, l1, l2, l3⟩ => ⟨q, last, l1, l2.ext e, l3⟩ }
def keptP (own : List Bd) (vs : Vs) : Int := (own.map fun b => (keptB b (lastOf vs) vs : Int)).sum
def keptOf (own common : List Bd) (people : List (Str × Vs)) (all : Vs) : Int := keptP common all + (people.map fun q => keptP own q.2).sum
def mine (people : List (Str × Vs)) (nm : Str) : Vs := match people.find? (fun p => decide (p.1 = nm)) with
  | none => []
  | some p => p.2
def ask (own common : List Bd) (people : List (Str × Vs)) (all : Vs) (nm : Str) (t c : Int) : Ans := ansOf (waitsOf own (mine people nm) t c ++ waitsOf common all t c) own.length
theorem valD_pas (nm : Str) : ∀ pas : List (Str × List Addr), valD (pasD pas) (.inr nm) = (pas.find? fun p => decide (p.1 = nm)).map fun p => Dv.lst (p.2.map Dv.obj)
  | [] => rfl
  | p :: r => by
    have ih := valD_pas nm r
    unfold valD pasD at ih ⊢
    rw [List.map_cons, List.find?_cons, List.find?_cons]
    by_cases h : p.1 = nm
    · rw [decide_eq_true h, decide_eq_true (show (Sum.inr p.1 : Key) = .inr nm by rw [h])]; rfl
    · rw [decide_eq_false h, decide_eq_false (show ¬ (Sum.inr p.1 : Key) = .inr nm from fun z => h (Sum.inr.inj z))]
      exact ih
theorem find_name {nm : Str} {β : Type} {l : List (Str × β)} {p : Str × β} (h : l.find? (fun p => decide (p.1 = nm)) = some p) : p.1 = nm := of_decide_eq_true (List.find?_some (p := fun p : Str × β => decide (p.1 = nm)) h)
theorem ppl_some {A : Ad} {μ : M} {own : List Bd} {latest : Int} {nm : Str} {p : Str × List Addr} : ∀ {pas : List (Str × List Addr)} {people : List (Str × Vs)}, All2 (Person A μ own latest) pas people → pas.find? (fun p => decide (p.1 = nm)) = some p → ∃ q, people.find? (fun p => decide (p.1 = nm)) = some q ∧ Person A μ own latest p q
  | _, _, .nil, e => by cases e
  | a :: pas, b :: people, .cons h t, e => by
    rw [List.find?_cons] at e ⊢
    rw [← h.1]
    by_cases z : a.1 = nm
    · rw [decide_eq_true z] at e ⊢
      cases e
      exact ⟨b, rfl, h⟩
    · rw [decide_eq_false z] at e ⊢
      exact ppl_some t e
theorem ppl_none {A : Ad} {μ : M} {own : List Bd} {latest : Int} {nm : Str} : ∀ {pas : List (Str × List Addr)} {people : List (Str × Vs)}, All2 (Person A μ own latest) pas people → pas.find? (fun p => decide (p.1 = nm)) = none → people.find? (fun p => decide (p.1 = nm)) = none
  | _, _, .nil, e => rfl
  | a :: pas, b :: people, .cons h t, e => by
    rw [List.find?_cons] at e ⊢
    rw [← h.1]
    by_cases z : a.1 = nm
    · rw [decide_eq_true z] at e; cases e
    · rw [decide_eq_false z] at e ⊢
      exact ppl_none t e
theorem fm_waits {ps : List (Addr × Bd)} {bs : List Bd} (e : ps.map (·.2) = bs) (vs : Vs) (t c : Int) : ps.filterMap (fun p : Addr × Bd => some (opI (m_law_wait p.2 vs t c))) = (waitsOf bs vs t c).map opI := by
  rw [fm_some (fun p : Addr × Bd => opI (m_law_wait p.2 vs t c)), ← e]
  unfold waitsOf
  rw [List.map_map, List.map_map]
  rfl
theorem fm_shut (W : List (Option Int)) : (List.range W.length).filterMap (fun i : Nat => if W.getD i none ≠ some 0 then some (Dv.int (i : Int)) else none) = ((shutL W).map fun i : Nat => (i : Int)).map Dv.int := by
  rw [fm_if (fun i : Nat => W.getD i none ≠ some 0) (fun i : Nat => Dv.int (i : Int)), List.map_map]
  rfl
theorem optdv : Enc.opt.dv = opI := by funext o; cases o <;> rfl
theorem nums_eq : ∀ {W : List (Option Int)}, none ∉ W → W.map opI = (nums W).map Dv.int
  | [], _ => rfl
  | none :: r, h => absurd List.mem_cons_self h
  | some x :: r, h => by
    have ih := nums_eq (W := r) fun z => h (List.mem_cons_of_mem _ z)
    unfold nums at ih ⊢
    rw [List.map_cons, List.filterMap_cons]
    show opI (some x) :: r.map opI = (x :: r.filterMap id).map Dv.int
    rw [ih]; rfl
theorem nums_len {W : List (Option Int)} (h : none ∉ W) : (nums W).length = W.length := by
  have := congrArg List.length (nums_eq h)
  rw [List.length_map, List.length_map] at this
  exact this.symm
theorem shut_ne {W : List (Option Int)} (h : shutL W ≠ []) : W ≠ [] := by
  intro z
  subst z
  exact h rfl
theorem waitsOf_len (bs : List Bd) (vs : Vs) (t c : Int) : (waitsOf bs vs t c).length = bs.length := List.length_map ..
/-- names that a gate takes -/
def letters : Str := "abcdefghijklmnopqrstuvwxyz"
def nameOk (z : Str) : Bool := decide (1 ≤ z.length) && decide (z.length ≤ 8) && z.cps.toList.all fun c => decide (c ∈ letters.cps.toList)
theorem nameOk_len {z : Str} (h : nameOk z = true) : (decide (1 ≤ (z.length : Int)) && decide ((z.length : Int) ≤ 8)) = true := by
  unfold nameOk at h
  rw [Bool.and_eq_true] at h
  obtain ⟨a, b⟩ := and_dec h.1
  rw [decide_eq_true (by omega), decide_eq_true (by omega)]; rfl
theorem nameOk_lt {z : Str} (h : nameOk z = true) : z.length < sizeLine := by
  unfold nameOk at h
  rw [Bool.and_eq_true] at h
  obtain ⟨a, b⟩ := and_dec h.1
  rw [sizeLine_eq]; omega
theorem nameOk_all {z : Str} (h : nameOk z = true) : (z.cps.toList.map fun c => decide (c ∈ letters.cps.toList)).all id = true := by
  unfold nameOk at h
  rw [Bool.and_eq_true] at h
  have := h.2
  rw [List.all_eq_true] at this ⊢
  intro b hb
  obtain ⟨c, hc, rfl⟩ := List.mem_map.mp hb
  exact this c hc
section
/-- new meters of bounds -/
def NewMets (A : Ad) (μ μ' : M) (bs : List Bd) (as : List Addr) : Prop := ExtM μ μ' ∧ as.length = bs.length ∧ (∀ (j : Nat) (a : Addr) (b : Bd), as[j]? = some a → bs[j]? = some b → μ' a = some (Mt.mo A b.meter)) ∧ as.Nodup ∧ ∀ a ∈ as, μ a = none
def S_meters_of (A : Ad) : DSp := fun ds μ kd _ => ∃ (bs : List Bd) (d : Dv), ds = [d] ∧ LTD μ d (bs.map (Bd.pv A)) ∧ bs.length ≤ 4 ∧ ∀ as μ', NewMets A μ μ' bs as → kd (.lst (as.map Dv.obj)) μ'
/-- the meters of one name -/
def MyMets (A : Ad) (μ μ' : M) (own : List Bd) (people : List (Str × Vs)) (latest : Int) (pas : List (Str × List Addr)) (nm : Str) (as : List Addr) : Prop :=
  ExtM μ μ' ∧ (∃ last, last ≤ latest ∧ MetsT A μ' last (mine people nm) as own ∧ Row last (mine people nm) ∧ (mine people nm).length ≤ 1000 ∧ last = lastOf (mine people nm)) ∧
  ((pas.find? (fun p => decide (p.1 = nm)) = some (nm, as) ∧ μ' = μ) ∨ (pas.find? (fun p => decide (p.1 = nm)) = none ∧ as.Nodup ∧ ∀ a ∈ as, μ a = none))
def S_Gate_meters_for (A : Ad) : DSp := fun ds μ kd _ => ∃ (g : Addr) (own common : List Bd) (people : List (Str × Vs)) (all : Vs) (latest : Int) (pd : Addr) (cas : List Addr) (pas : List (Str × List Addr)) (nm : Str),
  ds = [.obj g, .str nm] ∧ GateAt A μ g own common people all latest pd cas pas ∧ 0 ≤ latest ∧ ∀ as μ', MyMets A μ μ' own people latest pas nm as → kd (.lst (as.map Dv.obj)) μ'
def S_Gate_kept (A : Ad) : DSp := fun ds μ kd _ => ∃ (g : Addr) (own common : List Bd) (people : List (Str × Vs)) (all : Vs) (latest : Int) (pd : Addr) (cas : List Addr) (pas : List (Str × List Addr)),
  ds = [.obj g] ∧ GateAt A μ g own common people all latest pd cas pas ∧ kd (.int (keptOf own common people all)) μ
def S_Gate_names (A : Ad) : DSp := fun ds μ kd _ => ∃ (g : Addr) (own common : List Bd) (people : List (Str × Vs)) (all : Vs) (latest : Int) (pd : Addr) (cas : List Addr) (pas : List (Str × List Addr)),
  ds = [.obj g] ∧ GateAt A μ g own common people all latest pd cas pas ∧ pas.length < 64 ∧ ∀ ys p, ys.Perm (people.map (·.1)) → PyProof.Rows.sortedS ys = true → μ p = none → kd (.obj p) (updM μ p (.lst (ys.map Dv.str)))
end
theorem ppl_keys {A : Ad} {μ : M} {own : List Bd} {latest : Int} : ∀ {pas : List (Str × List Addr)} {people : List (Str × Vs)}, All2 (Person A μ own latest) pas people → (pasD pas).map (·.1) = (people.map (·.1)).map Sum.inr
  | _, _, .nil => rfl
  | a :: pas, b :: people, .cons h t => by
    show Sum.inr a.1 :: (pasD pas).map (·.1) = Sum.inr b.1 :: (people.map (·.1)).map Sum.inr
    rw [ppl_keys t, h.1]
theorem LTD.put {μ : M} {d : Dv} {xs : List Dv} {g C : Addr} {fs : List (Str × Dv)} {o : MO} (l : LTD μ d xs) (hg : μ g = some (.ins C fs)) : LTD (updM μ g o) d xs := by
  cases l with
  | lst => exact .lst _
  | tup => exact .tup _
  | obj h => exact .obj (by rw [updM_ne (fun z => by rw [z, hg] at h; cases h)]; exact h)

/-! ### a visit that is let by -/
def putP (people : List (Str × Vs)) (nm : Str) (vs : Vs) : List (Str × Vs) :=
  if (people.any fun q => decide (q.1 = nm)) = true then people.map (fun q => if q.1 = nm then (q.1, vs) else q) else people ++ [(nm, vs)]
def putA (pas : List (Str × List Addr)) (nm : Str) (as : List Addr) : List (Str × List Addr) :=
  if (pas.any fun q => decide (q.1 = nm)) = true then pas.map (fun q => if q.1 = nm then (q.1, as) else q) else pas ++ [(nm, as)]
theorem putA_D (pas : List (Str × List Addr)) (nm : Str) (as : List Addr) : putKD (pasD pas) (.inr nm) (.lst (as.map Dv.obj)) = pasD (putA pas nm as) := by
  have e : ((pasD pas).any fun kv => decide (kv.1 = (.inr nm : Key))) = pas.any fun q => decide (q.1 = nm) := by
    unfold pasD
    rw [List.any_map]
    congr 1
    funext q
    by_cases h : q.1 = nm
    · rw [decide_eq_true h]; exact decide_eq_true (show (Sum.inr q.1 : Key) = .inr nm by rw [h])
    · rw [decide_eq_false h]; exact decide_eq_false fun z => h (Sum.inr.inj z)
  unfold putKD putA
  rw [e]
  split
  · unfold pasD
    rw [List.map_map, List.map_map]
    congr 1
    funext q
    show (if (Sum.inr q.1 : Key) = .inr nm then ((Sum.inr q.1 : Key), Dv.lst (as.map Dv.obj)) else (.inr q.1, .lst (q.2.map Dv.obj))) = _
    by_cases h : q.1 = nm
    · rw [if_pos (by rw [h])]
      show _ = (fun p : Str × List Addr => ((Sum.inr p.1 : Key), Dv.lst (p.2.map Dv.obj))) (if q.1 = nm then (q.1, as) else q)
      rw [if_pos h]
    · rw [if_neg fun z => h (Sum.inr.inj z)]
      show _ = (fun p : Str × List Addr => ((Sum.inr p.1 : Key), Dv.lst (p.2.map Dv.obj))) (if q.1 = nm then (q.1, as) else q)
      rw [if_neg h]
  · unfold pasD
    rw [List.map_append]
    rfl
theorem vsdv_inj : ∀ {a b : Vs}, a.map encV.dv = b.map encV.dv → a = b
  | [], [], _ => rfl
  | [], _ :: _, h => by cases h
  | _ :: _, [], h => by cases h
  | (x, y) :: r, (z, w) :: q, h => by
    rw [List.map_cons, List.map_cons] at h
    obtain ⟨h1, h2⟩ := List.cons.inj h
    have h3 : Dv.tup [.int x, .int y] = Dv.tup [.int z, .int w] := h1
    cases h3
    rw [vsdv_inj h2]
theorem Mt.mo_inj {A : Ad} {m n : Mt} (h : Mt.mo A m = Mt.mo A n) : m = n := by
  cases m with
  | jar s f l t =>
    cases n with
    | jar s2 f2 l2 t2 =>
      have h' : MO.ins A.CJM (jmF s f l t) = MO.ins A.CJM (jmF s2 f2 l2 t2) := h
      cases h'
      rfl
    | win m2 s2 r2 =>
      have h' : MO.ins A.CJM (jmF s f l t) = MO.ins A.CWM (wmF m2 s2 r2) := h
      exact absurd (congrArg List.length (MO.ins.inj h').2) (by show ¬ 4 = 3; decide)
  | win m1 s1 r1 =>
    cases n with
    | jar s2 f2 l2 t2 =>
      have h' : MO.ins A.CWM (wmF m1 s1 r1) = MO.ins A.CJM (jmF s2 f2 l2 t2) := h
      exact absurd (congrArg List.length (MO.ins.inj h').2) (by show ¬ 3 = 4; decide)
    | win m2 s2 r2 =>
      have h' : MO.ins A.CWM (wmF m1 s1 r1) = MO.ins A.CWM (wmF m2 s2 r2) := h
      have h2 : wmF m1 s1 r1 = wmF m2 s2 r2 := (MO.ins.inj h').2
      unfold wmF at h2
      injection h2 with h3 h4
      injection h4 with h5 h6
      injection h6 with h7 _
      have e1 : m1 = m2 := by injection h3 with _ q; injection q
      have e2 : s1 = s2 := by injection h5 with _ q; injection q
      have e3 : r1.map encV.dv = r2.map encV.dv := by injection h7 with _ q; injection q
      rw [e1, e2, vsdv_inj e3]
/-- the meters of S have taken the visit, nothing else is changed -/
def TakeAll (A : Ad) (μ μ' : M) (S : List Addr) (t c : Int) : Prop := (∀ b, b ∉ S → μ' b = μ b) ∧ ∀ b ∈ S, ∀ m, μ b = some (Mt.mo A m) → μ' b = some (Mt.mo A (m.take t c))
theorem TakeAll.nil {A : Ad} {μ : M} {t c : Int} : TakeAll A μ μ [] t c := ⟨fun _ _ => rfl, fun _ h => (nomatch h)⟩
theorem TakeAll.step {A : Ad} {μ μ' : M} {S : List Addr} {a : Addr} {t c : Int} {m : Mt} (h : TakeAll A μ μ' S t c) (ha : a ∉ S) (hm : μ a = some (Mt.mo A m)) : TakeAll A μ (updM μ' a (Mt.mo A (m.take t c))) (S ++ [a]) t c := by
  constructor
  · intro b hb
    have h1 : b ∉ S := fun z => hb (List.mem_append_left _ z)
    have h2 : b ≠ a := fun z => hb (List.mem_append_right _ (by rw [z]; exact List.mem_singleton.mpr rfl))
    rw [updM_ne h2]; exact h.1 b h1
  · intro b hb m2 hm2
    by_cases z : b = a
    · subst z
      rw [hm] at hm2
      have e : m = m2 := Mt.mo_inj (Option.some.inj hm2)
      subst e
      exact updM_same
    · rw [updM_ne z]
      rcases List.mem_append.mp hb with hb | hb
      · exact h.2 b hb m2 hm2
      · exact absurd (List.mem_singleton.mp hb) z
theorem all2_left {α β : Type} {R : α → β → Prop} {as : List α} {bs : List β} (h : All2 R as bs) {a : α} (ha : a ∈ as) : ∃ b ∈ bs, R a b := by
  induction h with
  | nil => cases ha
  | cons h t ih =>
    rcases List.mem_cons.mp ha with rfl | ha
    · exact ⟨_, List.mem_cons_self, h⟩
    · obtain ⟨b, hb, r⟩ := ih ha
      exact ⟨b, List.mem_cons_of_mem _ hb, r⟩
theorem MetsT.take {A : Ad} {μ μ' : M} {S as : List Addr} {bs : List Bd} {last t c : Int} {vs : Vs} (h : MetsT A μ last vs as bs) (T : TakeAll A μ μ' S t c) (hs : ∀ a ∈ as, a ∈ S) (ht : last ≤ t) (hb : ∀ b ∈ bs, b.ok) : MetsT A μ' t (vs ++ [(t, c)]) as bs := by
  induction h with
  | nil => exact .nil
  | @cons a b as bs h r ih =>
    obtain ⟨m, h1, h2⟩ := h
    refine .cons ⟨m.take t c, T.2 a (hs a List.mem_cons_self) m h1, h2.add ht (hb b List.mem_cons_self)⟩ (ih (fun x hx => hs x (List.mem_cons_of_mem _ hx)) fun x hx => hb x (List.mem_cons_of_mem _ hx))
theorem MetsT.off {A : Ad} {μ μ' : M} {as : List Addr} {bs : List Bd} {last : Int} {vs : Vs} (h : MetsT A μ last vs as bs) (e : ∀ a ∈ as, μ' a = μ a) : MetsT A μ' last vs as bs := by
  induction h with
  | nil => exact .nil
  | @cons a b as bs h r ih =>
    obtain ⟨m, h1, h2⟩ := h
    exact .cons ⟨m, (e a List.mem_cons_self).trans h1, h2⟩ (ih fun x hx => e x (List.mem_cons_of_mem _ hx))
theorem MetsT.at {A : Ad} {μ : M} {as : List Addr} {bs : List Bd} {last : Int} {vs : Vs} (h : MetsT A μ last vs as bs) {a : Addr} (ha : a ∈ as) : ∃ m, μ a = some (Mt.mo A m) := by
  obtain ⟨b, _, m, h1, _⟩ := all2_left h ha
  exact ⟨m, h1⟩
theorem putA_keys (pas : List (Str × List Addr)) (nm : Str) (as : List Addr) : (putA pas nm as).map (·.1) = if (pas.any fun q => decide (q.1 = nm)) = true then pas.map (·.1) else pas.map (·.1) ++ [nm] := by
  unfold putA
  split
  · rw [List.map_map]
    congr 1
    funext q
    show (if q.1 = nm then (q.1, as) else q).1 = q.1
    split <;> rfl
  · rw [List.map_append]; rfl
theorem putA_mem {pas : List (Str × List Addr)} {nm : Str} {as : List Addr} {p : Str × List Addr} (h : p ∈ putA pas nm as) : p = (nm, as) ∨ (p ∈ pas ∧ p.1 ≠ nm) := by
  unfold putA at h
  split at h
  · obtain ⟨q, hq, e⟩ := List.mem_map.mp h
    by_cases z : q.1 = nm
    · rw [if_pos z] at e; subst e; exact .inl (by rw [z])
    · rw [if_neg z] at e; subst e; exact .inr ⟨hq, z⟩
  · rename_i hn
    rcases List.mem_append.mp h with h | h
    · refine .inr ⟨h, fun z => hn ?_⟩
      rw [List.any_eq_true]
      exact ⟨p, h, decide_eq_true z⟩
    · exact .inl (List.mem_singleton.mp h)
theorem any_find {β : Type} {l : List (Str × β)} {nm : Str} (h : (l.any fun q => decide (q.1 = nm)) = false) : l.find? (fun p => decide (p.1 = nm)) = none := by
  rw [List.find?_eq_none]
  intro x hx z
  rw [List.any_eq_false] at h
  exact h x hx z
theorem ppl_any {A : Ad} {μ : M} {own : List Bd} {latest : Int} {nm : Str} {pas : List (Str × List Addr)} {people : List (Str × Vs)} (h : All2 (Person A μ own latest) pas people) : (pas.any fun q => decide (q.1 = nm)) = people.any fun q => decide (q.1 = nm) := by
  induction h with
  | nil => rfl
  | cons h t ih => rw [List.any_cons, List.any_cons, ih, h.1]
theorem All2.map' {α β : Type} {R S : α → β → Prop} {f : α → α} {g : β → β} {as : List α} {bs : List β} (h : All2 R as bs) (m : ∀ a b, a ∈ as → R a b → S (f a) (g b)) : All2 S (as.map f) (bs.map g) := by
  induction h with
  | nil => exact .nil
  | cons h t ih => exact .cons (m _ _ List.mem_cons_self h) (ih fun a b ha => m a b (List.mem_cons_of_mem _ ha))
/-- the gate behind a visit -/
theorem GateAt.visit {A : Ad} {μ μ1 μ2 : M} {g : Addr} {own common : List Bd} {people : List (Str × Vs)} {all : Vs} {latest : Int} {pd : Addr} {cas : List Addr} {pas : List (Str × List Addr)} {nm : Str} {as : List Addr} {t c : Int}
    (G : GateAt A μ g own common people all latest pd cas pas) (my : MyMets A μ μ1 own people latest pas nm as) (ht : latest ≤ t) (hc : 0 ≤ c) (hlen : all.length ≤ 999 ∧ (mine people nm).length ≤ 999)
    (T : TakeAll A (updM μ1 pd (.dic (pasD (putA pas nm as)))) μ2 (as ++ cas) t c) (hg1 : g ∉ as) (hpd : pd ∉ as ++ cas) (hgd : g ≠ pd) :
    GateAt A (updM μ2 g (.ins A.CG (gtF A own cas pd t))) g own common (putP people nm (mine people nm ++ [(t, c)])) (all ++ [(t, c)]) t pd cas (putA pas nm as) := by
  obtain ⟨ex, ⟨last, l1, mt, row, _⟩, alt⟩ := my
  have G1 := G.ext ex
  have gne : ∀ a, a ∈ as ++ cas → a ≠ g := fun a ha z => by
    subst z
    rcases List.mem_append.mp ha with h | h
    · exact hg1 h
    · exact G.gc h
  have pne : ∀ a, a ∈ as ++ cas → a ≠ pd := fun a ha z => hpd (z ▸ ha)
  have mtD : MetsT A (updM μ1 pd (.dic (pasD (putA pas nm as)))) last (mine people nm) as own := mt.off fun a ha => updM_ne (pne a (List.mem_append_left _ ha))
  have cmD : MetsT A (updM μ1 pd (.dic (pasD (putA pas nm as)))) latest all cas common := G1.com.off fun a ha => updM_ne (pne a (List.mem_append_right _ ha))
  have mt2 := mtD.take T (fun a ha => List.mem_append_left _ ha) (Int.le_trans l1 ht) G.okO
  have cm2 := cmD.take T (fun a ha => List.mem_append_right _ ha) ht G.okC
  have upg : ∀ a, a ≠ g → (updM μ2 g (.ins A.CG (gtF A own cas pd t))) a = μ2 a := fun a h => updM_ne h
  have mt3 := mt2.off fun a ha => upg a (gne a (List.mem_append_left _ ha))
  have cm3 := cm2.off fun a ha => upg a (gne a (List.mem_append_right _ ha))
  have row2 : Row t (mine people nm ++ [(t, c)]) := row.add (Int.le_trans l1 ht) hc
  have dis : ∀ p ∈ pas, p.1 ≠ nm → ∀ a ∈ p.2, a ∉ as ++ cas := fun p hp hn a ha hx => by
    rcases List.mem_append.mp hx with h | h
    · rcases alt with ⟨hf, _⟩ | ⟨_, _, hf⟩
      · exact G.pp p hp (nm, as) (List.mem_of_find?_eq_some hf) hn a ha h
      · obtain ⟨q, _, e1, last2, _, m2, _⟩ := all2_left G.ppl hp
        obtain ⟨m, hm⟩ := m2.at ha
        rw [hf a h] at hm
        cases hm
    · exact (G.pn p hp).2 a ha h
  have other : ∀ p q, p ∈ pas → Person A μ own latest p q → p.1 ≠ nm → Person A (updM μ2 g (.ins A.CG (gtF A own cas pd t))) own t p q := fun p q hp ⟨e1, last2, b1, b2, b3, b4⟩ hn =>
    ⟨e1, last2, Int.le_trans b1 ht, (b2.ext ex).off fun a ha => by
      have h1 := dis p hp hn a ha
      obtain ⟨m, hm⟩ := b2.at ha
      have na : a ≠ g := fun z => G.gp p hp (z ▸ ha)
      have np : a ≠ pd := fun z => by
        have := G.dic
        rw [← z, hm] at this
        cases m <;> cases this
      rw [updM_ne na, T.1 a h1, updM_ne np], b3, b4⟩
  have me : Person A (updM μ2 g (.ins A.CG (gtF A own cas pd t))) own t (nm, as) (nm, mine people nm ++ [(t, c)]) := ⟨rfl, t, Int.le_refl _, mt3, row2, by rw [List.length_append]; simp only [List.length_cons, List.length_nil]; omega, (lastOf_snoc _ _ _).symm⟩
  have ppl : All2 (Person A (updM μ2 g (.ins A.CG (gtF A own cas pd t))) own t) (putA pas nm as) (putP people nm (mine people nm ++ [(t, c)])) := by
    unfold putA putP
    rw [ppl_any G.ppl]
    split
    · exact All2.map' G.ppl fun p q hp hr => by
        by_cases z : p.1 = nm
        · rw [if_pos z, if_pos (by rw [← hr.1]; exact z)]
          have : q.1 = nm := by rw [← hr.1]; exact z
          rw [z, this]
          exact me
        · rw [if_neg z, if_neg (by rw [← hr.1]; exact z)]
          exact other p q hp hr z
    · rename_i hn
      refine All2.append (G.ppl.monoIn fun p q hp hr => other p q hp hr fun z => hn ?_) (.cons me .nil)
      rw [← ppl_any G.ppl, List.any_eq_true]
      exact ⟨p, hp, decide_eq_true z⟩
  have asN : as.Nodup ∧ ∀ a ∈ as, a ∉ cas := by
    rcases alt with ⟨hf, _⟩ | ⟨_, hn, hf⟩
    · exact G.pn (nm, as) (List.mem_of_find?_eq_some hf)
    · refine ⟨hn, fun a ha hx => ?_⟩
      obtain ⟨m, hm⟩ := G.com.at hx
      rw [hf a ha] at hm
      cases hm
  exact {
    obj := updM_same
    dic := by rw [updM_ne (Ne.symm hgd), T.1 pd hpd, updM_same]
    com := cm3
    ppl := ppl
    kn := by
      rw [putA_keys]
      split
      · exact G.kn
      · rename_i hn
        rw [List.nodup_append]
        refine ⟨G.kn, List.nodup_cons.mpr ⟨fun z => (nomatch z), List.nodup_nil⟩, fun x hx y hy q => hn ?_⟩
        cases List.mem_singleton.mp hy
        obtain ⟨p, hp, e⟩ := List.mem_map.mp hx
        rw [List.any_eq_true]
        exact ⟨p, hp, decide_eq_true (e.trans q)⟩
    cn := G.cn
    pn := fun p hp => by
      rcases putA_mem hp with rfl | ⟨h, _⟩
      · exact asN
      · exact G.pn p h
    pp := fun p hp q hq hne a ha => by
      rcases putA_mem hp with rfl | ⟨h1, h2⟩
      · rcases putA_mem hq with rfl | ⟨h3, h4⟩
        · exact absurd rfl hne
        · exact fun hx => dis q h3 h4 a hx (List.mem_append_left _ ha)
      · rcases putA_mem hq with rfl | ⟨h3, h4⟩
        · exact fun hx => dis p h1 h2 a ha (List.mem_append_left _ hx)
        · exact G.pp p h1 q h3 hne a ha
    gc := G.gc
    gp := fun p hp => by
      rcases putA_mem hp with rfl | ⟨h, _⟩
      · exact hg1
      · exact G.gp p h
    row := G.row.add ht hc
    len := by rw [List.length_append]; simp only [List.length_cons, List.length_nil]; omega
    okO := G.okO
    okC := G.okC
    lO := G.lO
    lC := G.lC
    l0 := Int.le_trans G.l0 ht
    lt := (lastOf_snoc _ _ _).symm }
theorem my_facts {A : Ad} {μ μ1 : M} {g : Addr} {own common : List Bd} {people : List (Str × Vs)} {all : Vs} {latest : Int} {pd : Addr} {cas : List Addr} {pas : List (Str × List Addr)} {nm : Str} {as : List Addr}
    (G : GateAt A μ g own common people all latest pd cas pas) (my : MyMets A μ μ1 own people latest pas nm as) : (as ++ cas).Nodup ∧ g ∉ as ∧ pd ∉ as ++ cas ∧ g ≠ pd ∧ as.length = own.length ∧ cas.length = common.length ∧ ∀ a ∈ as ++ cas, ∃ m, μ1 a = some (Mt.mo A m) ∧ m.ok := by
  obtain ⟨ex, ⟨last, l1, mt, row, l4⟩, alt⟩ := my
  have pdm : ∀ m, μ pd ≠ some (Mt.mo A m) := fun m h => by rw [G.dic] at h; cases m <;> cases h
  refine ⟨?_, ?_, ?_, ?_, mt.length, G.com.length, ?_⟩
  · rw [List.nodup_append]
    rcases alt with ⟨hf, _⟩ | ⟨_, hn, hf⟩
    · have q := G.pn (nm, as) (List.mem_of_find?_eq_some hf)
      exact ⟨q.1, G.cn, fun a ha b hb z => q.2 a ha (z ▸ hb)⟩
    · refine ⟨hn, G.cn, fun a ha b hb z => ?_⟩
      subst z
      obtain ⟨m, hm⟩ := G.com.at hb
      rw [hf a ha] at hm
      cases hm
  · rcases alt with ⟨hf, _⟩ | ⟨_, hn, hf⟩
    · exact G.gp (nm, as) (List.mem_of_find?_eq_some hf)
    · intro h
      have := G.obj
      rw [hf g h] at this
      cases this
  · intro h
    rcases List.mem_append.mp h with h | h
    · rcases alt with ⟨hf, e⟩ | ⟨_, hn, hf⟩
      · subst e
        obtain ⟨m, hm⟩ := mt.at h
        exact pdm m hm
      · have := G.dic
        rw [hf pd h] at this
        cases this
    · obtain ⟨m, hm⟩ := G.com.at h
      exact pdm m hm
  · intro z
    have := G.obj
    rw [z, G.dic] at this
    cases this
  · intro a ha
    rcases List.mem_append.mp ha with ha | ha
    · obtain ⟨b, hb, m, h1, h2⟩ := all2_left mt ha
      exact ⟨m, h1, h2.ok (G.okO b hb) (by omega)⟩
    · obtain ⟨b, hb, m, h1, h2⟩ := all2_left G.com ha
      exact ⟨m, ex _ _ h1, h2.ok (G.okC b hb) (by have := G.len; omega)⟩
theorem valD_putA {pas : List (Str × List Addr)} {nm : Str} {as : List Addr} : valD (pasD (putA pas nm as)) (.inr nm) = some (.lst (as.map Dv.obj)) := by
  rw [valD_pas]
  have : (putA pas nm as).find? (fun p => decide (p.1 = nm)) = some (nm, as) := by
    unfold putA
    split
    · rename_i h
      induction pas with
      | nil => cases h
      | cons p r ih =>
        rw [List.map_cons, List.find?_cons]
        by_cases z : p.1 = nm
        · rw [if_pos z]
          show (match decide (p.1 = nm) with | true => _ | false => _) = _
          rw [decide_eq_true z, z]
        · rw [if_neg z]
          show (match decide (p.1 = nm) with | true => _ | false => _) = _
          rw [decide_eq_false z]
          refine ih ?_
          rw [List.any_cons, decide_eq_false z, Bool.false_or] at h
          exact h
    · rename_i h
      rw [List.find?_append, any_find (Bool.eq_false_iff.mpr h), Option.none_or, List.find?_cons, decide_eq_true rfl]
  rw [this]
  rfl
theorem putA_len (pas : List (Str × List Addr)) (nm : Str) (as : List Addr) : (putA pas nm as).length ≤ pas.length + 1 := by
  unfold putA
  split
  · rw [List.length_map]; omega
  · rw [List.length_append]; simp
theorem pasD_len (pas : List (Str × List Addr)) : (pasD pas).length = pas.length := List.length_map ..
/-! answers compared -/
theorem eqv_str (a b : Str) : PyData.eqv (.str a) (.str b) = decide (a = b) := by
  unfold PyData.eqv
  by_cases h : a = b
  · subst h; simp
  · rw [decide_eq_false h]; simpa using h
def Ans.py : Ans → PyData
  | .opn => .tuple [.str "open"]
  | .shut o k w => .tuple [.str "shut", .str (if o then "own" else "common"), .int (k : Int), Enc.opt.py w]
def Enc.ans : Enc Ans where
  dv := Ans.dv
  py := Ans.py
  n := 1
  toPy a := by
    cases a with
    | opn => unfold DL.toPy Ans.dv DL.toPys DL.toPy DL.toPys; rfl
    | shut o k w =>
      show DL.toPy (.tup [.str "shut", .str (if o then "own" else "common"), .int (k : Int), opI w]) = some (.tuple [.str "shut", .str (if o then "own" else "common"), .int (k : Int), Enc.opt.py w])
      have e := Enc.opt.toPy w
      rw [show Enc.opt.dv w = opI w from congrFun optdv w] at e
      unfold DL.toPy DL.toPys DL.toPys DL.toPys DL.toPys DL.toPys
      rw [e]
      unfold DL.toPy
      rfl
  lay a := by
    cases a with
    | opn => unfold Ans.py PyData.canLay0; exact layAll_of (by intro x hx; cases List.mem_singleton.mp hx; unfold PyData.canLay0; decide +kernel)
    | shut o k w => unfold Ans.py PyData.canLay0; exact layAll_of (by
        intro x hx
        simp only [List.mem_cons, List.not_mem_nil, or_false] at hx
        rcases hx with rfl | rfl | rfl | rfl
        · unfold PyData.canLay0; decide +kernel
        · unfold PyData.canLay0; cases o <;> decide +kernel
        · unfold PyData.canLay0; rfl
        · exact Enc.opt.lay w)
  dep a := by
    cases a with
    | opn => unfold Ans.py PyData.depth; have := depthAll_le (xs := [.str "open"]) (n := 0) (by intro x hx; cases List.mem_singleton.mp hx; unfold PyData.depth; exact Nat.le_refl _); omega
    | shut o k w =>
      unfold Ans.py PyData.depth
      have := depthAll_le (xs := [.str "shut", .str (if o then "own" else "common"), .int (k : Int), Enc.opt.py w]) (n := 0) (by
        intro x hx
        simp only [List.mem_cons, List.not_mem_nil, or_false] at hx
        rcases hx with rfl | rfl | rfl | rfl
        · unfold PyData.depth; exact Nat.le_refl _
        · unfold PyData.depth; exact Nat.le_refl _
        · unfold PyData.depth; exact Nat.le_refl _
        · exact Enc.opt.dep w)
      omega
  eqv a b := by
    have so : decide (("open" : Str) = "shut") = false := by decide +kernel
    have so2 : decide (("shut" : Str) = "open") = false := by decide +kernel
    cases a with
    | opn =>
      cases b with
      | opn => unfold Ans.py PyData.eqv PyData.eqvAll; rw [eqv_str]; unfold PyData.eqvAll; simp
      | shut o k w => unfold Ans.py PyData.eqv PyData.eqvAll; rw [eqv_str, so]; rfl
    | shut o k w =>
      cases b with
      | opn => unfold Ans.py PyData.eqv PyData.eqvAll; rw [eqv_str, so2]; rfl
      | shut o2 k2 w2 =>
        unfold Ans.py PyData.eqv PyData.eqvAll PyData.eqvAll PyData.eqvAll PyData.eqvAll PyData.eqvAll
        have ei : PyData.eqv (.int (k : Int)) (.int (k2 : Int)) = decide ((k : Int) = (k2 : Int)) := Enc.int.eqv _ _
        rw [eqv_str, eqv_str, Enc.opt.eqv, ei, decide_eq_true rfl]
        have e2 : decide ((if o = true then ("own" : Str) else ("common" : Str)) = (if o2 = true then ("own" : Str) else ("common" : Str))) = decide (o = o2) := by
          cases o <;> cases o2 <;> decide +kernel
        have e3 : decide ((k : Int) = (k2 : Int)) = decide (k = k2) := by
          by_cases h : k = k2
          · rw [decide_eq_true h, decide_eq_true (by omega)]
          · rw [decide_eq_false h, decide_eq_false (by omega)]
        rw [e2, e3]
        by_cases h1 : o = o2 <;> by_cases h2 : k = k2 <;> by_cases h3 : w = w2 <;> simp [h1, h2, h3]
theorem fm_kept {ps : List (Addr × Bd)} {bs : List Bd} (e : ps.map (·.2) = bs) (last : Int) (vs : Vs) : ps.filterMap (fun p : Addr × Bd => some (Dv.int (keptB p.2 last vs : Int))) = (bs.map fun b => (keptB b last vs : Int)).map Dv.int := by
  rw [fm_int (fun p : Addr × Bd => (keptB p.2 last vs : Int)), ← e, List.map_map, List.map_map, List.map_map]
  rfl
theorem keptB_eq {b : Bd} {last : Int} {vs : Vs} {m : Mt} (h : Tie last vs b m) : m.kept = keptB b last vs := by cases h <;> rfl
theorem find_at {pas : List (Str × List Addr)} (kn : (pas.map (·.1)).Nodup) {p : Str × List Addr} (hp : p ∈ pas) : pas.find? (fun q => decide (q.1 = p.1)) = some p := by
  induction pas with
  | nil => cases hp
  | cons q r ih =>
    rw [List.map_cons, List.nodup_cons] at kn
    rw [List.find?_cons]
    rcases List.mem_cons.mp hp with rfl | hp
    · rw [decide_eq_true rfl]
    · have : q.1 ≠ p.1 := fun z => kn.1 (z ▸ List.mem_map_of_mem hp)
      rw [decide_eq_false this]
      exact ih kn.2 hp
theorem updM_id {μ : M} {a : Addr} {o : MO} (h : μ a = some o) : updM μ a o = μ := by
  funext b
  by_cases z : b = a
  · subst z; rw [updM_same, h]
  · rw [updM_ne z]
theorem sum_take_succ {α : Type} {xs : List α} {j : Nat} {a : α} (f : α → Int) (h : xs[j]? = some a) : ((xs.take (j + 1)).map f).sum = ((xs.take j).map f).sum + f a := by
  rw [take_succ_get h, List.map_append, List.sum_append]
  simp
/-- a gate just made -/
theorem gate_new {A : Ad} {μ μ2 : M} {g pd : Addr} {o1 o2 o3 : MO} {own common : List Bd} {cas : List Addr} (hn : NewMets A (updM μ g o1) μ2 common cas) (hg : μ g = some (.ins A.CG [])) (hpd : (updM μ2 g o2) pd = none)
    (hO : ∀ b ∈ own, b.ok) (hC : ∀ b ∈ common, b.ok) (lO : own.length ≤ 4) (lC : common.length ≤ 4) :
    GateAt A (updM (updM (updM (updM μ2 g o2) pd (.dic [])) g o3) g (.ins A.CG (gtF A own cas pd 0))) g own common [] [] 0 pd cas [] ∧ ∀ a o, μ a = some o → a ≠ g → (updM (updM (updM (updM μ2 g o2) pd (.dic [])) g o3) g (.ins A.CG (gtF A own cas pd 0))) a = some o := by
  obtain ⟨ex, hl, hm, nd, fr⟩ := hn
  have gp : pd ≠ g := fun z => by rw [z, updM_same] at hpd; cases hpd
  have cg : ∀ a ∈ cas, a ≠ g := fun a ha z => by
    have := fr a ha
    rw [z, updM_same] at this
    cases this
  have mt : ∀ (j : Nat) (a : Addr) (b : Bd), cas[j]? = some a → common[j]? = some b → μ2 a = some (Mt.mo A b.meter) := hm
  have cp : ∀ a ∈ cas, a ≠ pd := fun a ha z => by
    obtain ⟨j, hj⟩ := List.getElem?_of_mem ha
    have hlt : j < common.length := by have := (List.getElem?_eq_some_iff.mp hj).1; omega
    have := mt j a _ hj (List.getElem?_eq_getElem hlt)
    subst z
    rw [updM_ne (cg a ha), this] at hpd
    cases hpd
  rw [updM_updM]
  constructor
  · exact {
      obj := updM_same
      dic := by rw [updM_ne gp]; exact updM_same
      com := all2_get hl fun j a b e1 e2 => ⟨_, by
        have ha := List.mem_of_getElem? e1
        rw [updM_ne (cg a ha), updM_ne (cp a ha), updM_ne (cg a ha)]
        exact mt j a b e1 e2, Tie.new (hC b (List.mem_of_getElem? e2))⟩
      ppl := .nil
      kn := List.nodup_nil
      cn := nd
      pn := fun p hp => (nomatch hp)
      pp := fun p hp => (nomatch hp)
      gc := fun h => cg g h rfl
      gp := fun p hp => (nomatch hp)
      row := trivial
      len := Nat.zero_le _
      okO := hO
      okC := hC
      lO := lO
      lC := lC
      l0 := Int.le_refl _
      lt := rfl }
  · intro a o ha ne
    have h1 := ex a o (by rw [updM_ne ne]; exact ha)
    have np : a ≠ pd := fun z => by
      subst z
      rw [updM_ne ne, h1] at hpd
      cases hpd
    rw [updM_ne ne, updM_ne np, updM_ne ne]
    exact h1
section
variable {K : Kf} {A : Ad} {μ : M} {k : DK}
end

/-! ### drawn bounds of a gate -/
def bds (ns : List Int) (o z : Int) (n : Nat) : List Bd := (List.range n).map fun (i : Nat) => m_law_bound (m_law_cell ns (o + (0 + (i : Int)))) z
theorem fm_bds (A : Ad) (ns : List Int) (o z : Int) (n : Nat) : (List.range n).filterMap (fun (i : Nat) => some ((m_law_bound (m_law_cell ns (o + (0 + (i : Int)))) z).pv A)) = (bds ns o z n).map (Bd.pv A) := by
  rw [fm_some (fun (i : Nat) => (m_law_bound (m_law_cell ns (o + (0 + (i : Int)))) z).pv A)]
  unfold bds
  rw [List.map_map]
  rfl
theorem bds_len (ns : List Int) (o z : Int) (n : Nat) : (bds ns o z n).length = n := by unfold bds; simp
theorem bds_ok {ns : List Int} {o z : Int} (h1 : 1 ≤ z) (h2 : z ≤ 40000000) (n : Nat) : ∀ b ∈ bds ns o z n, b.ok := by
  intro b hb
  obtain ⟨i, _, rfl⟩ := List.mem_map.mp hb
  exact bound_ok (cell_lo _ _) h1 h2
theorem getD_allG {α : Type} {P : α → Prop} {d : α} : ∀ {l : List α} {i : Nat}, (∀ x ∈ l, P x) → i < l.length → P (l.getD i d)
  | x :: l, 0, h, _ => h x List.mem_cons_self
  | x :: l, i + 1, h, hl => getD_allG (l := l) (i := i) (fun y hy => h y (List.mem_cons_of_mem _ hy)) (Nat.lt_of_succ_lt_succ hl)
theorem eqv_strB (a b : Str) : PyData.eqv (.str a) (.str b) = decide (a = b) := by
  unfold PyData.eqv
  by_cases h : a = b
  · subst h; simp
  · rw [decide_eq_false h]; simpa using h
theorem kind_jw : decide (("jar" : Str) = "window") = false := by decide +kernel
theorem kind_wj : decide (("window" : Str) = "jar") = false := by decide +kernel
def Enc.bd : Enc Bd where
  dv := Bd.tv
  py b := .tuple [.str b.kind, .int b.sz, .int b.par]
  n := 1
  toPy b := by cases b <;> (unfold Bd.tv DL.toPy DL.toPys DL.toPys DL.toPys DL.toPys; unfold DL.toPy; rfl)
  lay b := by
    unfold PyData.canLay0
    refine layAll_of fun x hx => ?_
    simp only [List.mem_cons, List.not_mem_nil, or_false] at hx
    rcases hx with rfl | rfl | rfl
    · unfold PyData.canLay0
      cases b
      · show PyData.strOk "jar" = true; decide +kernel
      · show PyData.strOk "window" = true; decide +kernel
    · unfold PyData.canLay0; rfl
    · unfold PyData.canLay0; rfl
  dep b := by
    unfold PyData.depth
    have := depthAll_le (xs := [.str b.kind, .int b.sz, .int b.par]) (n := 0) (by
      intro x hx
      simp only [List.mem_cons, List.not_mem_nil, or_false] at hx
      rcases hx with rfl | rfl | rfl <;> (unfold PyData.depth; exact Nat.le_refl _))
    omega
  eqv a b := by
    have ei : ∀ x y : Int, PyData.eqv (.int x) (.int y) = decide (x = y) := Enc.int.eqv
    unfold PyData.eqv PyData.eqvAll PyData.eqvAll PyData.eqvAll PyData.eqvAll
    rw [eqv_strB, ei, ei]
    cases a with
    | jar s f =>
      cases b with
      | jar s2 f2 =>
        show (decide (("jar" : Str) = "jar") && (decide (s = s2) && (decide (f = f2) && true))) = _
        by_cases h1 : s = s2 <;> by_cases h2 : f = f2 <;> simp [h1, h2]
      | win s2 f2 =>
        show (decide (("jar" : Str) = "window") && _) = _
        rw [kind_jw]; simp
    | win s f =>
      cases b with
      | jar s2 f2 =>
        show (decide (("window" : Str) = "jar") && _) = _
        rw [kind_wj]; simp
      | win s2 f2 =>
        show (decide (("window" : Str) = "window") && (decide (s = s2) && (decide (f = f2) && true))) = _
        by_cases h1 : s = s2 <;> by_cases h2 : f = f2 <;> simp [h1, h2]
theorem fm_none {α β : Type} (xs : List α) : xs.filterMap (fun _ => (none : Option β)) = [] := by
  induction xs with
  | nil => rfl
  | cons x r ih => rw [List.filterMap_cons]; exact ih
/-- the parts of an answer -/
theorem fm_tvs (ns : List Int) (o z : Int) (n : Nat) : (List.range n).filterMap (fun (i : Nat) => some (m_law_bound (m_law_cell ns (o + (0 + (i : Int)))) z).tv) = (bds ns o z n).map Bd.tv := by
  rw [fm_some (fun (i : Nat) => (m_law_bound (m_law_cell ns (o + (0 + (i : Int)))) z).tv)]
  unfold bds
  rw [List.map_map]
  rfl
theorem fm_muls (q : Int) (bs : List Bd) : bs.filterMap (fun b => some (b.mulS q).tv) = (bs.map (Bd.mulS q)).map Bd.tv := by
  rw [fm_some (fun b : Bd => (b.mulS q).tv), List.map_map]
  rfl
theorem fm_pv (A : Ad) (bs : List Bd) : bs.filterMap (fun b => some (b.pv A)) = bs.map (Bd.pv A) := fm_some (fun b : Bd => b.pv A) bs
theorem bds_sz {ns : List Int} {o z : Int} (h1 : 1 ≤ z) (h2 : z ≤ 40000000) (n : Nat) : ∀ b ∈ bds ns o z n, b.sz ≤ 100000000000000 := by
  intro b hb
  obtain ⟨i, _, rfl⟩ := List.mem_map.mp hb
  have := bound_sz (cell_lo ns (o + (0 + (i : Int)))) h1 h2
  omega

/-! ### drawn bounds and a gate's persons -/
def PplLen (people : List (Str × Vs)) (j : Nat) : Prop := ∀ q ∈ people, q.2.length ≤ j
theorem mine_len {people : List (Str × Vs)} {j : Nat} (h : PplLen people j) (nm : Str) : (mine people nm).length ≤ j := by
  unfold mine
  cases e : people.find? (fun p => decide (p.1 = nm)) with
  | none => exact Nat.zero_le _
  | some p => exact h p (List.mem_of_find?_eq_some e)
theorem putP_len {people : List (Str × Vs)} {j : Nat} {nm : Str} {vs : Vs} (h : PplLen people j) (hv : vs.length ≤ j + 1) : PplLen (putP people nm vs) (j + 1) := by
  intro q hq
  unfold putP at hq
  split at hq
  · obtain ⟨p, hp, rfl⟩ := List.mem_map.mp hq
    split
    · exact hv
    · exact Nat.le_succ_of_le (h p hp)
  · rcases List.mem_append.mp hq with hq | hq
    · exact Nat.le_succ_of_le (h q hq)
    · cases List.mem_singleton.mp hq; exact hv
theorem fm_due {bs : List Bd} (vs : Vs) (t c : Int) : bs.filterMap (fun b => some (opI (m_law_wait b vs t c))) = (waitsOf bs vs t c).map opI := by
  rw [fm_some (fun b => opI (m_law_wait b vs t c))]
  unfold waitsOf
  rw [List.map_map]
  rfl

/-! ### numbers and odd things -/
inductive Thing (μ : M) : Dv → Option Int → Prop where
  | int (i : Int) : Thing μ (.int i) (some i)
  | non : Thing μ .non none
  | bl (b : Bool) : Thing μ (.bl b) none
  | str (s : Str) : Thing μ (.str s) none
  | tup (xs : List Dv) : Thing μ (.tup xs) none
  | lst (xs : List Dv) : Thing μ (.lst xs) none
  | dic {a : Addr} {kvs : List (Key × Dv)} (h : μ a = some (.dic kvs)) : Thing μ (.obj a) none
theorem ext_new {μ : M} {a : Addr} {o : MO} (h : μ a = none) : ExtM μ (updM μ a o) := fun b u e => by rw [updM_ne (ne_ofM e h)]; exact e
theorem Thing.ext {μ μ' : M} {d : Dv} {v : Option Int} (h : Thing μ d v) (e : ExtM μ μ') : Thing μ' d v := by
  cases h with
  | int => exact .int _
  | non => exact .non
  | bl => exact .bl _
  | str => exact .str _
  | tup => exact .tup _
  | lst => exact .lst _
  | dic h => exact .dic (e _ _ h)
def goodB (v : Option Int) (l m : Int) : Bool := match v with
  | none => false
  | some i => decide (l ≤ i) && decide (i ≤ m)
theorem goodB_some {v : Option Int} {l m : Int} (h : goodB v l m = true) : ∃ i, v = some i ∧ l ≤ i ∧ i ≤ m := by
  cases v with
  | none => cases h
  | some i => exact ⟨i, rfl, and_dec h⟩
/-- the tests isinstance(x, int), isinstance(x, bool) -/
def isIntD : Dv → Bool
  | .int _ => true
  | .bl _ => true
  | _ => false
def isBoolD : Dv → Bool
  | .bl _ => true
  | _ => false
section
variable {K : Kf} {μ : M} {k : DK} {X : Cx}
theorem d_isInt {d : Dv} {v : Option Int} (t : Thing μ d v) (h : k (.bl (isIntD d)) μ) : DCl K (rIsiA K) [d, .ty "int"] μ k := by
  cases t with
  | int i => exact d_isi (.int _) (.ty _) (kit_ty (r := true) (by decide +kernel)) h
  | non => exact d_isi .non (.ty _) (kit_ty (r := false) (by decide +kernel)) h
  | bl => exact d_isi (.bl _) (.ty _) (kit_ty (r := true) (by decide +kernel)) h
  | str => exact d_isi (.str _) (.ty _) (kit_ty (r := false) (by decide +kernel)) h
  | tup => exact d_isi (.tup _) (.ty _) (kit_ty (r := false) (by decide +kernel)) h
  | lst => exact d_isi (.lst _) (.ty _) (kit_ty (r := false) (by decide +kernel)) h
  | dic hd => exact d_isi (.dicM hd) (.ty _) (kit_ty (r := false) (by decide +kernel)) h
theorem d_isBool {d : Dv} {v : Option Int} (t : Thing μ d v) (h : k (.bl (isBoolD d)) μ) : DCl K (rIsiA K) [d, .ty "bool"] μ k := by
  cases t with
  | int i => exact d_isi (.int _) (.ty _) (kit_ty (r := false) (by decide +kernel)) h
  | non => exact d_isi .non (.ty _) (kit_ty (r := false) (by decide +kernel)) h
  | bl => exact d_isi (.bl _) (.ty _) (kit_ty (r := true) (by decide +kernel)) h
  | str => exact d_isi (.str _) (.ty _) (kit_ty (r := false) (by decide +kernel)) h
  | tup => exact d_isi (.tup _) (.ty _) (kit_ty (r := false) (by decide +kernel)) h
  | lst => exact d_isi (.lst _) (.ty _) (kit_ty (r := false) (by decide +kernel)) h
  | dic hd => exact d_isi (.dicM hd) (.ty _) (kit_ty (r := false) (by decide +kernel)) h
end
theorem Thing.odd {μ : M} {d : Dv} (t : Thing μ d none) : (!isIntD d || isBoolD d) = true := by cases t <;> rfl
theorem Thing.num {μ : M} {d : Dv} {i : Int} (t : Thing μ d (some i)) : d = .int i := by cases t; rfl

/-! ### bounds made of anything -/
section
def S_need_number (A : Ad) : DSp := fun ds μ kd ke => ∃ (d : Dv) (v : Option Int) (l m : Int), ds = [d, .int l, .int m] ∧ Thing μ d v ∧ (goodB v l m = true → kd .non μ) ∧ (goodB v l m = false → ke (.ref A.CNB) [] μ)
def S_Jar_init (A : Ad) : DSp := fun ds μ kd ke => ∃ (a : Addr) (d e : Dv) (v w : Option Int), ds = [.obj a, d, e] ∧ μ a = some (.ins A.CJ []) ∧ Thing μ d v ∧ Thing μ e w ∧ ((goodB v 1 1000000000000000 && goodB w 0 1000000000) = true → kd .non (updM μ a (.ins A.CJ (putD "flow" e (putD "size" d []))))) ∧ ((goodB v 1 1000000000000000 && goodB w 0 1000000000) = false → ke (.ref A.CNB) [] μ)
def S_Window_init (A : Ad) : DSp := fun ds μ kd ke => ∃ (a : Addr) (d e : Dv) (v w : Option Int), ds = [.obj a, d, e] ∧ μ a = some (.ins A.CW []) ∧ Thing μ d v ∧ Thing μ e w ∧ ((goodB v 1 1000000000000000 && goodB w 1 1000000000000) = true → kd .non (updM μ a (.ins A.CW (putD "span" e (putD "most" d []))))) ∧ ((goodB v 1 1000000000000000 && goodB w 1 1000000000000) = false → ke (.ref A.CNB) [] μ)
end

/-! ### the gate asked anything -/
inductive NThing : Dv → Option Str → Prop where
  | str (z : Str) (h : z.length < sizeLine) : NThing (.str z) (some z)
  | non : NThing .non none
  | int (i : Int) : NThing (.int i) none
  | bl (b : Bool) : NThing (.bl b) none
  | lst (xs : List Dv) : NThing (.lst xs) none
  | tup (xs : List Dv) : NThing (.tup xs) none
theorem NThing.eq {d : Dv} {z : Str} (t : NThing d (some z)) : d = .str z ∧ z.length < sizeLine := by
  cases t with
  | str z h => exact ⟨rfl, h⟩
def goodN (v : Option Str) : Bool := match v with
  | none => false
  | some z => nameOk z
section
variable {K : Kf} {μ : M} {k : DK}
theorem d_isStr {d : Dv} {v : Option Str} (t : NThing d v) (h : k (.bl v.isSome) μ) : DCl K (rIsiA K) [d, .ty "str"] μ k := by
  cases t with
  | str z => exact d_isi (.str _) (.ty _) (kit_ty (r := true) (by decide +kernel)) h
  | non => exact d_isi .non (.ty _) (kit_ty (r := false) (by decide +kernel)) h
  | int => exact d_isi (.int _) (.ty _) (kit_ty (r := false) (by decide +kernel)) h
  | bl => exact d_isi (.bl _) (.ty _) (kit_ty (r := false) (by decide +kernel)) h
  | lst => exact d_isi (.lst _) (.ty _) (kit_ty (r := false) (by decide +kernel)) h
  | tup => exact d_isi (.tup _) (.ty _) (kit_ty (r := false) (by decide +kernel)) h
end
theorem nameOk_split (z : Str) : nameOk z = ((decide (1 ≤ (z.length : Int)) && decide ((z.length : Int) ≤ 8)) && (z.cps.toList.map fun c => decide (c ∈ letters.cps.toList)).all id) := by
  unfold nameOk
  have e1 : decide (1 ≤ z.length) = decide (1 ≤ (z.length : Int)) := decide_eq_decide.mpr (by omega)
  have e2 : decide (z.length ≤ 8) = decide ((z.length : Int) ≤ 8) := decide_eq_decide.mpr (by omega)
  have e3 : (z.cps.toList.map fun c => decide (c ∈ letters.cps.toList)).all id = z.cps.toList.all fun c => decide (c ∈ letters.cps.toList) := by
    rw [List.all_map]; rfl
  rw [e1, e2, e3]
/-- what may be a bound -/
inductive Bth (A : Ad) : Dv → Option Bd → Prop where
  | bd (b : Bd) (h : b.ok) : Bth A (b.pv A) (some b)
  | non : Bth A .non none
  | int (i : Int) : Bth A (.int i) none
  | bl (b : Bool) : Bth A (.bl b) none
  | str (x : Str) : Bth A (.str x) none
  | lst (xs : List Dv) : Bth A (.lst xs) none
  | tup (xs : List Dv) : Bth A (.tup xs) none
theorem Bth.eq {A : Ad} {d : Dv} {b : Bd} (t : Bth A d (some b)) : d = b.pv A ∧ b.ok := by
  cases t with
  | bd b h => exact ⟨rfl, h⟩
def goodBs (ys : List (Option Bd)) (m : Int) : Bool := decide ((ys.length : Int) ≤ m) && ys.all Option.isSome
theorem goodBs_bds {A : Ad} : ∀ {xs : List Dv} {ys : List (Option Bd)}, All2 (Bth A) xs ys → ys.all Option.isSome = true → ∃ bs : List Bd, ys = bs.map some ∧ xs = bs.map (Bd.pv A) ∧ ∀ b ∈ bs, b.ok
  | _, _, .nil, _ => ⟨[], rfl, rfl, fun b h => (nomatch h)⟩
  | x :: xs, none :: ys, .cons h t, e => by simp at e
  | x :: xs, some b :: ys, .cons h t, e => by
    obtain ⟨e1, ok⟩ := h.eq
    obtain ⟨bs, e2, e3, e4⟩ := goodBs_bds t (by simpa using e)
    refine ⟨b :: bs, by rw [e2]; rfl, by rw [e1, e3]; rfl, fun c hc => ?_⟩
    rcases List.mem_cons.mp hc with rfl | hc
    · exact ok
    · exact e4 c hc
theorem bth_bds {A : Ad} : ∀ {bs : List Bd}, (∀ b ∈ bs, b.ok) → All2 (Bth A) (bs.map (Bd.pv A)) (bs.map some)
  | [], _ => .nil
  | b :: bs, h => .cons (.bd b (h b List.mem_cons_self)) (bth_bds fun c hc => h c (List.mem_cons_of_mem _ hc))
theorem goodBs_some {bs : List Bd} {m : Int} (h : (bs.length : Int) ≤ m) : goodBs (bs.map some) m = true := by
  unfold goodBs
  rw [List.length_map, decide_eq_true h, List.all_map]
  simp [List.all_eq_true]
section
variable {K : Kf} {mg : Str → Option Value} {A : Ad} {μ : M} {k : DK}
theorem d_isBth (T : Txt K mg A) {d : Dv} {o : Option Bd} (t : Bth A d o) (h : k (.bl o.isSome) μ) : DCl K (rIsiA K) [d, .tup [.obj A.CJ, .obj A.CW]] μ k := by
  have no : ∀ {v : Value}, TyD K μ d v → PySem.W.kitOne K v (.ref A.CJ) = some false → PySem.W.kitOne K v (.ref A.CW) = some false → o = none → DCl K (rIsiA K) [d, .tup [.obj A.CJ, .obj A.CW]] μ k := fun tv k1 k2 e =>
    d_isiT tv (.cons (.own _) (.cons (.own _) .nil)) (kitAny_cons k1 (fun _ => kitAny_cons k2 (fun _ => rfl) fun z => nomatch z) fun z => nomatch z) (by subst e; exact h)
  cases t with
  | bd b ok => exact d_isBd T b h
  | non => exact no .non T.kit_NoneType_Jar T.kit_NoneType_Window rfl
  | int => exact no (.int _) T.kit_int_Jar T.kit_int_Window rfl
  | bl => exact no (.bl _) T.kit_bool_Jar T.kit_bool_Window rfl
  | str => exact no (.str _) T.kit_str_Jar T.kit_str_Window rfl
  | lst => exact no (.lst _) T.kit_list_Jar T.kit_list_Window rfl
  | tup => exact no (.tup _) T.kit_tuple_Jar T.kit_tuple_Window rfl
end
theorem idxT {xs : List Bool} {j : Nat} (h : (xs.take j).all (fun b => !b) = true) : ∀ (m : Nat) (z : Bool), m < j → xs[m]? = some z → z ≠ true := fun m z h1 h2 e => by
  subst e
  rw [List.all_eq_true] at h
  have : true ∈ xs.take j := List.mem_of_getElem? (i := m) (by rw [List.getElem?_take, if_pos h1]; exact h2)
  exact absurd (h true this) (by decide)
/-- what is refused -/
inductive Rf where
  | name | moment | late | cost
  deriving DecidableEq
def Rf.cls (A : Ad) : Rf → Addr
  | .name => A.CNN
  | .moment => A.CNM
  | .late => A.CLT
  | .cost => A.CNC
def refu (latest : Int) (n : Option Str) (t c : Option Int) : Option Rf :=
  if goodN n = false then some .name else if goodB t 0 1000000000000 = false then some .moment else if t.getD 0 < latest then some .late else if goodB c 1 1000000000 = false then some .cost else none
theorem refu_none {latest : Int} {n : Option Str} {t c : Option Int} (h : refu latest n t c = none) : ∃ z i j, n = some z ∧ t = some i ∧ c = some j ∧ nameOk z = true ∧ latest ≤ i ∧ 0 ≤ i ∧ i ≤ 1000000000000 ∧ 1 ≤ j ∧ j ≤ 1000000000 := by
  unfold refu at h
  split at h
  · cases h
  · rename_i h1
    split at h
    · cases h
    · rename_i h2
      split at h
      · cases h
      · rename_i h3
        split at h
        · cases h
        · rename_i h4
          cases n with
          | none => exact absurd rfl h1
          | some z =>
            obtain ⟨i, rfl, a1, a2⟩ := goodB_some (Bool.not_eq_false _ ▸ h2)
            obtain ⟨j, rfl, b1, b2⟩ := goodB_some (Bool.not_eq_false _ ▸ h4)
            exact ⟨z, i, j, rfl, rfl, rfl, by simpa [goodN] using h1, by simpa using h3, a1, a2, b1, b2⟩
/-- the addresses of a gate -/
def Foot (g pd : Addr) (cas : List Addr) (pas : List (Str × List Addr)) (b : Addr) : Prop := b = g ∨ b = pd ∨ b ∈ cas ∨ ∃ p ∈ pas, b ∈ p.2
theorem GateAt.foot {A : Ad} {μ : M} {g : Addr} {own common : List Bd} {people : List (Str × Vs)} {all : Vs} {latest : Int} {pd : Addr} {cas : List Addr} {pas : List (Str × List Addr)} (G : GateAt A μ g own common people all latest pd cas pas) {b : Addr} (h : Foot g pd cas pas b) : ∃ o, μ b = some o := by
  rcases h with rfl | rfl | h | ⟨p, hp, h⟩
  · exact ⟨_, G.obj⟩
  · exact ⟨_, G.dic⟩
  · obtain ⟨m, e⟩ := G.com.at h; exact ⟨_, e⟩
  · obtain ⟨j, hj⟩ := List.getElem?_of_mem hp
    obtain ⟨q, _, _, last, _, mt, _⟩ := G.ppl.get hj
    obtain ⟨m, e⟩ := mt.at h; exact ⟨_, e⟩
theorem GateAt.frame {A : Ad} {μ μ' : M} {g : Addr} {own common : List Bd} {people : List (Str × Vs)} {all : Vs} {latest : Int} {pd : Addr} {cas : List Addr} {pas : List (Str × List Addr)} (G : GateAt A μ g own common people all latest pd cas pas)
    (e : ∀ b, Foot g pd cas pas b → ∀ o, μ b = some o → μ' b = some o) : GateAt A μ' g own common people all latest pd cas pas :=
  { G with
    obj := e _ (.inl rfl) _ G.obj
    dic := e _ (.inr (.inl rfl)) _ G.dic
    com := G.com.off fun b hb => by obtain ⟨m, h⟩ := G.com.at hb; rw [h, e _ (.inr (.inr (.inl hb))) _ h]
    ppl := G.ppl.monoIn fun p q hp ⟨e1, last, l1, l2, l3⟩ => ⟨e1, last, l1, l2.off fun b hb => by obtain ⟨m, h⟩ := l2.at hb; rw [h, e _ (.inr (.inr (.inr ⟨p, hp, hb⟩))) _ h], l3⟩ }
section
def S_is_whole (A : Ad) : DSp := fun ds μ kd _ => ∃ (d : Dv) (v : Option Int) (l m : Int), ds = [d, .int l, .int m] ∧ Thing μ d v ∧ kd (.bl (goodB v l m)) μ
def S_need_moment (A : Ad) : DSp := fun ds μ kd ke => ∃ (d : Dv) (v : Option Int), ds = [d] ∧ Thing μ d v ∧ (goodB v 0 1000000000000 = true → kd .non μ) ∧ (goodB v 0 1000000000000 = false → ke (.ref A.CNM) [] μ)
def S_need_cost (A : Ad) : DSp := fun ds μ kd ke => ∃ (d : Dv) (v : Option Int), ds = [d] ∧ Thing μ d v ∧ (goodB v 1 1000000000 = true → kd .non μ) ∧ (goodB v 1 1000000000 = false → ke (.ref A.CNC) [] μ)
def S_need_name (A : Ad) : DSp := fun ds μ kd ke => ∃ (d : Dv) (v : Option Str), ds = [d] ∧ NThing d v ∧ (goodN v = true → kd .non μ) ∧ (goodN v = false → ke (.ref A.CNN) [] μ)
def S_need_bounds (A : Ad) : DSp := fun ds μ kd ke => ∃ (d : Dv) (xs : List Dv) (ys : List (Option Bd)) (m : Int), ds = [d, .int m] ∧ LTD μ d xs ∧ All2 (Bth A) xs ys ∧ xs.length < sizeLine ∧ (goodBs ys m = true → kd .non μ) ∧ (goodBs ys m = false → ke (.ref A.CNB) [] μ)
def S_Gate_init (A : Ad) : DSp := fun ds μ kd ke => ∃ (g : Addr) (d e : Dv) (xs ws : List Dv) (ys zs : List (Option Bd)), ds = [.obj g, d, e] ∧ μ g = some (.ins A.CG []) ∧ LTD μ d xs ∧ LTD μ e ws ∧ All2 (Bth A) xs ys ∧ All2 (Bth A) ws zs ∧ (xs.length < sizeLine ∧ ws.length < sizeLine) ∧
  ((goodBs ys 4 && goodBs zs 4) = true → ∀ pd cas μ', (∀ a o, μ a = some o → a ≠ g → μ' a = some o) → (∀ b, Foot g pd cas [] b → b = g ∨ μ b = none) → GateAt A μ' g (ys.filterMap id) (zs.filterMap id) [] [] 0 pd cas [] → kd .non μ') ∧
  ((goodBs ys 4 && goodBs zs 4) = false → ke (.ref A.CNB) [] μ)
def S_Gate_ask (A : Ad) : DSp := fun ds μ kd ke => ∃ (g : Addr) (own common : List Bd) (people : List (Str × Vs)) (all : Vs) (latest : Int) (pd : Addr) (cas : List Addr) (pas : List (Str × List Addr)) (dn dt dc : Dv) (vn : Option Str) (vt vc : Option Int),
  ds = [.obj g, dn, dt, dc] ∧ GateAt A μ g own common people all latest pd cas pas ∧ (NThing dn vn ∧ Thing μ dt vt ∧ Thing μ dc vc) ∧
  (∀ r, refu latest vn vt vc = some r → ke (.ref (r.cls A)) [] μ) ∧ (∀ nm t c, refu latest vn vt vc = none → vn = some nm → vt = some t → vc = some c → ∀ μ', ExtM μ μ' → kd (ask own common people all nm t c).dv μ')
def S_Gate_visit (A : Ad) : DSp := fun ds μ kd ke => ∃ (g : Addr) (own common : List Bd) (people : List (Str × Vs)) (all : Vs) (latest : Int) (pd : Addr) (cas : List Addr) (pas : List (Str × List Addr)) (dn dt dc : Dv) (vn : Option Str) (vt vc : Option Int),
  ds = [.obj g, dn, dt, dc] ∧ GateAt A μ g own common people all latest pd cas pas ∧ (NThing dn vn ∧ Thing μ dt vt ∧ Thing μ dc vc) ∧ (all.length ≤ 999 ∧ PplLen people 999 ∧ pas.length ≤ 900) ∧
  (∀ r, refu latest vn vt vc = some r → ke (.ref (r.cls A)) [] μ) ∧ (∀ nm t c, refu latest vn vt vc = none → vn = some nm → vt = some t → vc = some c →
    (ask own common people all nm t c ≠ .opn → ∀ μ', ExtM μ μ' → kd (ask own common people all nm t c).dv μ') ∧
    (ask own common people all nm t c = .opn → ∀ μ' pas', GateAt A μ' g own common (putP people nm (mine people nm ++ [(t, c)])) (all ++ [(t, c)]) t pd cas pas' → pas'.length ≤ pas.length + 1 →
      (∀ b o, μ b = some o → b ≠ g → b ≠ pd → b ∉ cas → (∀ p ∈ pas, b ∉ p.2) → μ' b = some o) → (∀ b, Foot g pd cas pas' b → Foot g pd cas pas b ∨ μ b = none) → kd Ans.opn.dv μ'))
end
theorem putA_foot {g pd : Addr} {cas : List Addr} {pas : List (Str × List Addr)} {nm : Str} {as : List Addr} {b : Addr} {μ μ1 : M} (h : Foot g pd cas (putA pas nm as) b) (ha : (pas.find? (fun p => decide (p.1 = nm)) = some (nm, as)) ∨ ∀ a ∈ as, μ a = none) : Foot g pd cas pas b ∨ μ b = none := by
  rcases h with rfl | rfl | h | ⟨p, hp, h⟩
  · exact .inl (.inl rfl)
  · exact .inl (.inr (.inl rfl))
  · exact .inl (.inr (.inr (.inl h)))
  · rcases putA_mem hp with rfl | ⟨hp, _⟩
    · rcases ha with ha | ha
      · exact .inl (.inr (.inr (.inr ⟨_, List.mem_of_find?_eq_some ha, h⟩)))
      · exact .inr (ha b h)
    · exact .inl (.inr (.inr (.inr ⟨p, hp, h⟩)))
theorem ext_none {μ μ1 : M} (e : ExtM μ μ1) {a : Addr} (h : μ1 a = none) : μ a = none := by
  cases q : μ a with
  | none => rfl
  | some o => rw [e a o q] at h; cases h
theorem gate_foot {A : Ad} {μ μ2 : M} {g pd : Addr} {o1 o2 : MO} {common : List Bd} {cas : List Addr} (hn : NewMets A (updM μ g o1) μ2 common cas) (hpd : (updM μ2 g o2) pd = none) : ∀ b, Foot g pd cas [] b → b = g ∨ μ b = none := by
  obtain ⟨ex, hl, hm, nd, fr⟩ := hn
  have key : ∀ b, (updM μ g o1) b = none → b = g ∨ μ b = none := fun b h => by
    by_cases z : b = g
    · exact .inl z
    · rw [updM_ne z] at h; exact .inr h
  rintro b (rfl | rfl | h | ⟨p, hp, h⟩)
  · exact .inl rfl
  · by_cases z : b = g
    · exact .inl z
    · rw [updM_ne z] at hpd
      exact key b (ext_none ex hpd)
  · exact key b (fr b h)
  · cases hp
theorem Rf.some_of {latest : Int} {vn : Option Str} {vt vc : Option Int} : (goodN vn = false → refu latest vn vt vc = some .name) ∧ (goodN vn = true → goodB vt 0 1000000000000 = false → refu latest vn vt vc = some .moment) ∧
    (goodN vn = true → goodB vt 0 1000000000000 = true → vt.getD 0 < latest → refu latest vn vt vc = some .late) ∧ (goodN vn = true → goodB vt 0 1000000000000 = true → ¬ vt.getD 0 < latest → goodB vc 1 1000000000 = false → refu latest vn vt vc = some .cost) ∧
    (goodN vn = true → goodB vt 0 1000000000000 = true → ¬ vt.getD 0 < latest → goodB vc 1 1000000000 = true → refu latest vn vt vc = none) := by
  unfold refu
  refine ⟨fun h => by rw [if_pos h], fun h h2 => by rw [if_neg (by rw [h]; decide), if_pos h2], fun h h2 h3 => by rw [if_neg (by rw [h]; decide), if_neg (by rw [h2]; decide), if_pos h3], fun h h2 h3 h4 => by rw [if_neg (by rw [h]; decide), if_neg (by rw [h2]; decide), if_neg h3, if_pos h4], fun h h2 h3 h4 => by rw [if_neg (by rw [h]; decide), if_neg (by rw [h2]; decide), if_neg h3, if_neg (by rw [h4]; decide)]⟩
theorem fm_some_id (bs : List Bd) : (bs.map some).filterMap id = bs := by
  induction bs with
  | nil => rfl
  | cons b r ih => rw [List.map_cons, List.filterMap_cons]; show b :: _ = _; rw [ih]
/-- lists that are no bounds -/
theorem odd_bounds {A : Ad} {jar : Bd} (ok : jar.ok) {d : Dv} (h : d ∈ [Dv.lst (List.replicate (5 : Int).toNat (jar.pv A)), .lst [jar.pv A, .non], .lst [.int 5], .tup [jar.pv A, .str "x"], .lst [.tup [.str "jar", .int 5, .int 1]]]) :
    ∃ xs ys, (∀ μ : M, LTD μ d xs) ∧ All2 (Bth A) xs ys ∧ goodBs ys 4 = false ∧ xs.length < sizeLine := by
  simp only [List.mem_cons, List.not_mem_nil, or_false] at h
  have z := sizeLine_eq
  rcases h with rfl | rfl | rfl | rfl | rfl
  · exact ⟨_, [some jar, some jar, some jar, some jar, some jar], fun _ => .lst _, .cons (.bd _ ok) (.cons (.bd _ ok) (.cons (.bd _ ok) (.cons (.bd _ ok) (.cons (.bd _ ok) .nil)))), rfl, by rw [z]; simp⟩
  · exact ⟨_, [some jar, none], fun _ => .lst _, .cons (.bd _ ok) (.cons .non .nil), rfl, by rw [z]; simp⟩
  · exact ⟨_, [none], fun _ => .lst _, .cons (.int _) .nil, rfl, by rw [z]; simp⟩
  · exact ⟨_, [some jar, none], fun _ => .tup _, .cons (.bd _ ok) (.cons (.str _) .nil), rfl, by rw [z]; simp⟩
  · exact ⟨_, [none], fun _ => .lst _, .cons (.tup _) .nil, rfl, by rw [z]; simp⟩

/-! ### names compared; what stands beside a gate -/
theorem putP_mem {people : List (Str × Vs)} {nm : Str} {vs : Vs} {p : Str × Vs} (h : p ∈ putP people nm vs) : (p.1 = nm ∧ p.2 = vs) ∨ p ∈ people := by
  unfold putP at h
  split at h
  · obtain ⟨q, hq, rfl⟩ := List.mem_map.mp h
    by_cases z : q.1 = nm
    · rw [if_pos z]; exact .inl ⟨z, rfl⟩
    · rw [if_neg z]; exact .inr hq
  · rcases List.mem_append.mp h with h | h
    · exact .inr h
    · cases List.mem_singleton.mp h; exact .inl ⟨rfl, rfl⟩
/-- every name of the law is a good one, and has visits -/
def PplOk (people : List (Str × Vs)) : Prop := ∀ p ∈ people, nameOk p.1 = true ∧ p.2 ≠ []
theorem PplOk.put {people : List (Str × Vs)} {nm : Str} {vs : Vs} (h : PplOk people) (h1 : nameOk nm = true) (h2 : vs ≠ []) : PplOk (putP people nm vs) := fun p hp => by
  rcases putP_mem hp with ⟨e1, e2⟩ | hp
  · rw [e1, e2]; exact ⟨h1, h2⟩
  · exact h p hp
theorem nameOk_str {z : Str} (h : nameOk z = true) : PyData.strOk z = true := by
  unfold nameOk at h
  rw [Bool.and_eq_true, List.all_eq_true] at h
  unfold PyData.strOk
  rw [← Array.all_toList, List.all_eq_true]
  intro c hc
  have h1 := of_decide_eq_true (h.2 c hc)
  have h2 : ∀ c ∈ letters.cps.toList, c < 0x110000 := by decide +kernel
  exact decide_eq_true (h2 c h1)
/-! lists of texts compared -/
theorem toPys_strs (ys : List Str) : DL.toPys (ys.map Dv.str) = some (ys.map PyData.str) := by
  induction ys with
  | nil => rw [List.map_nil, List.map_nil]; unfold DL.toPys; rfl
  | cons x r ih => rw [List.map_cons, List.map_cons]; unfold DL.toPys; rw [ih]; unfold DL.toPy; rfl
theorem eqvAll_strs : ∀ xs ys : List Str, PyData.eqvAll (xs.map PyData.str) (ys.map PyData.str) = decide (xs = ys)
  | [], [] => by rw [List.map_nil]; unfold PyData.eqvAll; rfl
  | [], y :: ys => by rw [List.map_nil, List.map_cons]; unfold PyData.eqvAll; rfl
  | x :: xs, [] => by rw [List.map_nil, List.map_cons]; unfold PyData.eqvAll; rfl
  | x :: xs, y :: ys => by
    rw [List.map_cons, List.map_cons]
    unfold PyData.eqvAll
    rw [eqv_str, eqvAll_strs xs ys]
    by_cases h1 : x = y
    · by_cases h2 : xs = ys
      · simp [h1, h2]
      · simp [h1, h2]
    · simp [h1]
theorem shaped_strs {ys : List Str} (h : ∀ y ∈ ys, PyData.strOk y = true) : SeqAt.shaped (.list (ys.map PyData.str)) = true := by
  unfold SeqAt.shaped
  have l1 : (PyData.list (ys.map PyData.str)).canLay0 = true := by
    unfold PyData.canLay0
    refine layAll_of fun x hx => ?_
    obtain ⟨y, hy, rfl⟩ := List.mem_map.mp hx
    unfold PyData.canLay0
    exact h y hy
  have l2 : (PyData.list (ys.map PyData.str)).depth ≤ 64 := by
    unfold PyData.depth
    have := depthAll_le (xs := ys.map PyData.str) (n := 0) (by
      intro x hx
      obtain ⟨y, hy, rfl⟩ := List.mem_map.mp hx
      unfold PyData.depth
      exact Nat.le_refl _)
    omega
  rw [l1, decide_eq_true l2]
  rfl
section
variable {K : Kf} {μ : M} {k : DK}
theorem d_neStr {x y : Dv} {ys zs : List Str} (lx : SqD μ x (ys.map Dv.str)) (ly : SqD μ y (zs.map Dv.str)) (h1 : ∀ y ∈ ys, PyData.strOk y = true) (h2 : ∀ y ∈ zs, PyData.strOk y = true) (h : k (.bl (!decide (ys = zs))) μ) : DOp K (rNeA K) x y μ k :=
  d_neSS lx ly (toPys_strs ys) (toPys_strs zs) (shaped_strs h1) (shaped_strs h2) (by
    have e : PyData.eqv (.list (ys.map PyData.str)) (.list (zs.map PyData.str)) = decide (ys = zs) := by unfold PyData.eqv; exact eqvAll_strs ys zs
    rw [e]; exact h)
end
/-- a list put elsewhere changes no gate -/
theorem GateAt.lput {A : Ad} {μ : M} {g : Addr} {own common : List Bd} {people : List (Str × Vs)} {all : Vs} {latest : Int} {pd : Addr} {cas : List Addr} {pas : List (Str × List Addr)} {a : Addr} {o : MO} (G : GateAt A μ g own common people all latest pd cas pas)
    (h1 : a ≠ g) (h2 : a ≠ pd) (h3 : ∀ m : Mt, μ a ≠ some (Mt.mo A m)) : GateAt A (updM μ a o) g own common people all latest pd cas pas :=
  { G with
    obj := by rw [updM_ne (Ne.symm h1)]; exact G.obj
    dic := by rw [updM_ne (Ne.symm h2)]; exact G.dic
    com := G.com.off fun b hb => updM_ne fun z => by
      obtain ⟨m, hm⟩ := G.com.at hb
      exact h3 m (z ▸ hm)
    ppl := G.ppl.mono fun p q ⟨e, last, l1, l2, l3⟩ => ⟨e, last, l1, l2.off fun b hb => updM_ne fun z => by
      obtain ⟨m, hm⟩ := l2.at hb
      exact h3 m (z ▸ hm), l3⟩ }
theorem GateAt.lputL {A : Ad} {μ : M} {g : Addr} {own common : List Bd} {people : List (Str × Vs)} {all : Vs} {latest : Int} {pd : Addr} {cas : List Addr} {pas : List (Str × List Addr)} {a : Addr} {o : MO} {xs : List Dv} (G : GateAt A μ g own common people all latest pd cas pas)
    (h : μ a = some (.lst xs)) : GateAt A (updM μ a o) g own common people all latest pd cas pas :=
  G.lput (fun z => by have := G.obj; rw [← z, h] at this; cases this) (fun z => by have := G.dic; rw [← z, h] at this; cases this) fun m z => by rw [h] at z; cases m <;> cases z
theorem GateAt.lputD {A : Ad} {μ : M} {g : Addr} {own common : List Bd} {people : List (Str × Vs)} {all : Vs} {latest : Int} {pd : Addr} {cas : List Addr} {pas : List (Str × List Addr)} {a : Addr} {o : MO} {xs : List (Key × Dv)} (G : GateAt A μ g own common people all latest pd cas pas)
    (h : μ a = some (.dic xs)) (hp : a ≠ pd) : GateAt A (updM μ a o) g own common people all latest pd cas pas :=
  G.lput (fun z => by have := G.obj; rw [← z, h] at this; cases this) hp fun m z => by rw [h] at z; cases m <;> cases z
/-- what stands beside the gate and is no part of it -/
theorem GateAt.notL {A : Ad} {μ : M} {g : Addr} {own common : List Bd} {people : List (Str × Vs)} {all : Vs} {latest : Int} {pd : Addr} {cas : List Addr} {pas : List (Str × List Addr)} {a : Addr} {o : MO} (G : GateAt A μ g own common people all latest pd cas pas)
    (h : μ a = some o) (ho : ∀ C fs, o ≠ .ins C fs) : a ≠ g ∧ a ∉ cas ∧ ∀ p ∈ pas, a ∉ p.2 := by
  have hm : ∀ m : Mt, μ a ≠ some (Mt.mo A m) := fun m z => by
    rw [h] at z
    cases m
    · exact ho _ _ (Option.some.inj z)
    · exact ho _ _ (Option.some.inj z)
  refine ⟨fun z => ?_, fun z => ?_, fun p hp z => ?_⟩
  · have := G.obj
    rw [← z, h] at this
    exact ho _ _ (Option.some.inj this)
  · obtain ⟨m, e⟩ := G.com.at z
    exact hm m e
  · obtain ⟨j, hj⟩ := List.getElem?_of_mem hp
    obtain ⟨q, _, _, last, _, mt, _⟩ := G.ppl.get hj
    obtain ⟨m, e⟩ := mt.at z
    exact hm m e
theorem ext_newS {μ : M} {a : Addr} {o : MO} (h : μ a = none) : ExtM μ (updM μ a o) := fun b u e => by rw [updM_ne (ne_ofM e h)]; exact e
theorem ppl_fst {A : Ad} {μ : M} {own : List Bd} {latest : Int} : ∀ {pas : List (Str × List Addr)} {people : List (Str × Vs)}, All2 (Person A μ own latest) pas people → pas.map (·.1) = people.map (·.1)
  | _, _, .nil => rfl
  | a :: pas, b :: people, .cons h t => by rw [List.map_cons, List.map_cons, ppl_fst t, h.1]
theorem PplLen.mono {people : List (Str × Vs)} {i j : Nat} (h : PplLen people i) (l : i ≤ j) : PplLen people j := fun q hq => Nat.le_trans (h q hq) l

/-! ### rows of a text -/
def sgn (z : Str) : List Nat := z.cps.toList
/-- the parts between the signs c -/
def sp (c : Nat) : List Nat → List (List Nat)
  | [] => [[]]
  | x :: r => if x = c then [] :: sp c r else match sp c r with
    | [] => [[x]]
    | p :: q => (x :: p) :: q
theorem sp_ne (c : Nat) (l : List Nat) : sp c l ≠ [] := by
  cases l with
  | nil => exact List.cons_ne_nil _ _
  | cons x r =>
    show (if x = c then [] :: sp c r else match sp c r with | [] => [[x]] | p :: q => (x :: p) :: q) ≠ []
    split
    · exact List.cons_ne_nil _ _
    · split <;> exact List.cons_ne_nil _ _
theorem sp_hit (c : Nat) (r : List Nat) : sp c (c :: r) = [] :: sp c r := if_pos rfl
theorem sp_miss {c x : Nat} {r p : List Nat} {q : List (List Nat)} (h : x ≠ c) (e : sp c r = p :: q) : sp c (x :: r) = (x :: p) :: q := by
  show (if x = c then [] :: sp c r else match sp c r with | [] => [[x]] | p :: q => (x :: p) :: q) = _
  rw [if_neg h, e]
theorem spl_sp (c : Nat) : ∀ (l acc p : List Nat) (q : List (List Nat)), sp c l = p :: q → TL.spl [c] 0 acc l = (acc ++ p) :: q
  | [], acc, p, q, h => by
    cases h
    rw [TL.spl_nil, List.append_nil]
  | x :: r, acc, p, q, h => by
    obtain ⟨p1, q1, e⟩ : ∃ p1 q1, sp c r = p1 :: q1 := by
      cases z : sp c r with
      | nil => exact absurd z (sp_ne c r)
      | cons a b => exact ⟨a, b, rfl⟩
    by_cases z : x = c
    · subst z
      rw [sp_hit] at h
      have hp : TL.pre [x] (x :: r) = true := TL.pre_self [x] r
      have key := spl_sp x r [] p1 q1 e
      rw [TL.spl_hit hp]
      show acc :: TL.spl [x] 0 [] r = _
      injection h with h1 h2
      rw [key, ← h1, ← h2, List.append_nil, e]; rfl
    · rw [sp_miss z e] at h
      have key := spl_sp c r (acc ++ [x]) p1 q1 e
      injection h with h1 h2
      rw [TL.spl_miss (TL.pre_of_head [] r z), key, ← h1, ← h2, List.append_assoc]; rfl
theorem split_sp (a : Str) {c : Nat} (hc : c < 256) : Txt.split a (SX.S [c]) = (sp c (sgn a)).map SX.S := by
  conv => lhs; rw [← SX.S_tl a]
  rw [SX.split_S (by simp) (by simpa using hc)]
  obtain ⟨p, q, e⟩ : ∃ p q, sp c (sgn a) = p :: q := by
    cases z : sp c (sgn a) with
    | nil => exact absurd z (sp_ne c _)
    | cons a b => exact ⟨a, b, rfl⟩
  have key := spl_sp c (sgn a) [] p q e
  show (TL.spl [c] 0 [] (sgn a)).map SX.S = _
  rw [key, e, List.nil_append]
theorem sp_app (c : Nat) : ∀ a b : List Nat, sp c (a ++ c :: b) = sp c a ++ sp c b
  | [], b => sp_hit c b
  | x :: r, b => by
    have ih := sp_app c r b
    obtain ⟨p, q, e⟩ : ∃ p q, sp c r = p :: q := by
      cases z : sp c r with
      | nil => exact absurd z (sp_ne c r)
      | cons a b => exact ⟨a, b, rfl⟩
    by_cases z : x = c
    · subst z
      rw [List.cons_append, sp_hit, sp_hit, ih]; rfl
    · rw [e] at ih
      rw [List.cons_append, sp_miss z ih, sp_miss z e]; rfl
theorem sp_free (c : Nat) : ∀ {l : List Nat}, c ∉ l → sp c l = [l]
  | [], _ => rfl
  | x :: r, h => by
    have ih := sp_free c (l := r) fun z => h (List.mem_cons_of_mem _ z)
    exact sp_miss (fun z => h (z ▸ List.mem_cons_self)) ih
theorem sp_mem {c : Nat} : ∀ {l p : List Nat}, p ∈ sp c l → ∀ x ∈ p, x ∈ l
  | [], p, h, x, hx => by
    cases List.mem_singleton.mp h
    cases hx
  | y :: r, p, h, x, hx => by
    obtain ⟨p1, q1, e⟩ : ∃ p1 q1, sp c r = p1 :: q1 := by
      cases z : sp c r with
      | nil => exact absurd z (sp_ne c r)
      | cons a b => exact ⟨a, b, rfl⟩
    by_cases z : y = c
    · subst z
      rw [sp_hit] at h
      rcases List.mem_cons.mp h with rfl | h
      · cases hx
      · exact List.mem_cons_of_mem _ (sp_mem h x hx)
    · rw [sp_miss z e] at h
      rcases List.mem_cons.mp h with rfl | h
      · rcases List.mem_cons.mp hx with rfl | hx
        · exact List.mem_cons_self
        · exact List.mem_cons_of_mem _ (sp_mem (p := p1) (by rw [e]; exact List.mem_cons_self) x hx)
      · exact List.mem_cons_of_mem _ (sp_mem (p := p) (by rw [e]; exact List.mem_cons_of_mem _ h) x hx)
theorem sp_part_len {c : Nat} : ∀ {l p : List Nat}, p ∈ sp c l → p.length ≤ l.length
  | [], p, h => by cases List.mem_singleton.mp h; exact Nat.le_refl _
  | y :: r, p, h => by
    obtain ⟨p1, q1, e⟩ : ∃ p1 q1, sp c r = p1 :: q1 := by
      cases z : sp c r with
      | nil => exact absurd z (sp_ne c r)
      | cons a b => exact ⟨a, b, rfl⟩
    by_cases z : y = c
    · subst z
      rw [sp_hit] at h
      rcases List.mem_cons.mp h with rfl | h
      · exact Nat.zero_le _
      · exact Nat.le_succ_of_le (sp_part_len h)
    · rw [sp_miss z e] at h
      rcases List.mem_cons.mp h with rfl | h
      · exact Nat.succ_le_succ (sp_part_len (p := p1) (by rw [e]; exact List.mem_cons_self))
      · exact Nat.le_succ_of_le (sp_part_len (p := p) (by rw [e]; exact List.mem_cons_of_mem _ h))
theorem sp_len (c : Nat) : ∀ l : List Nat, (sp c l).length ≤ l.length + 1
  | [] => Nat.le_refl _
  | y :: r => by
    have ih := sp_len c r
    obtain ⟨p1, q1, e⟩ : ∃ p1 q1, sp c r = p1 :: q1 := by
      cases z : sp c r with
      | nil => exact absurd z (sp_ne c r)
      | cons a b => exact ⟨a, b, rfl⟩
    rw [e] at ih
    by_cases z : y = c
    · subst z; rw [sp_hit, e]; simp only [List.length_cons] at ih ⊢; omega
    · rw [sp_miss z e]; simp only [List.length_cons] at ih ⊢; omega
/-- the words of a row, the rows that have words -/
def wd (l : List Nat) : List (List Nat) := (sp 32 l).filter fun w => decide (w ≠ [])
def rws (l : List Nat) : List (List (List Nat)) := ((sp 10 l).map wd).filter fun w => decide (w ≠ [])
theorem wd_app (a b : List Nat) : wd (a ++ 32 :: b) = wd a ++ wd b := by unfold wd; rw [sp_app, List.filter_append]
theorem rws_app (a b : List Nat) : rws (a ++ 10 :: b) = rws a ++ rws b := by unfold rws; rw [sp_app, List.map_append, List.filter_append]
theorem wd_nil : wd [] = [] := rfl
theorem wd_one {w : List Nat} (h : w ≠ []) (hf : 32 ∉ w) : wd w = [w] := by
  unfold wd
  rw [sp_free 32 hf, List.filter_cons, if_pos (by simpa using h), List.filter_nil]
theorem wd_rep (a : List Nat) : ∀ k, wd (List.replicate k 32 ++ a) = wd a
  | 0 => rfl
  | k + 1 => by
    have := wd_app [] (List.replicate k 32 ++ a)
    rw [List.replicate_succ, List.cons_append]
    exact this.trans (wd_rep a k)
theorem wd_blank (k : Nat) : wd (List.replicate k 32) = [] := by
  have := wd_rep [] k
  rw [List.append_nil] at this
  exact this
theorem wd_end (a : List Nat) : ∀ k, wd (a ++ List.replicate k 32) = wd a
  | 0 => by rw [List.replicate_zero, List.append_nil]
  | k + 1 => by rw [List.replicate_succ, wd_app, wd_blank, List.append_nil]
theorem wd_join (m : Nat) : ∀ {ws : List (List Nat)}, (∀ w ∈ ws, w ≠ [] ∧ 32 ∉ w) → wd (TL.joinL (List.replicate (m + 1) 32) ws) = ws
  | [], _ => rfl
  | [w], h => wd_one (h w List.mem_cons_self).1 (h w List.mem_cons_self).2
  | w :: v :: r, h => by
    have ih := wd_join m (ws := v :: r) fun x hx => h x (List.mem_cons_of_mem _ hx)
    show wd (w ++ (List.replicate (m + 1) 32 ++ TL.joinL (List.replicate (m + 1) 32) (v :: r))) = _
    rw [List.replicate_succ, List.cons_append, wd_app, wd_rep, ← List.replicate_succ, ih, wd_one (h w List.mem_cons_self).1 (h w List.mem_cons_self).2]
    rfl
theorem rws_one {l : List Nat} (h : 10 ∉ l) (hw : wd l ≠ []) : rws l = [wd l] := by
  unfold rws
  rw [sp_free 10 h, List.map_cons, List.map_nil, List.filter_cons, if_pos (by simpa using hw), List.filter_nil]
theorem rws_none {l : List Nat} (h : 10 ∉ l) (hw : wd l = []) : rws l = [] := by
  unfold rws
  rw [sp_free 10 h, List.map_cons, List.map_nil, hw]
  rfl
theorem rws_join : ∀ ls : List (List Nat), rws (TL.joinL [10] ls) = ls.flatMap rws
  | [] => rfl
  | [l] => by show rws l = [l].flatMap rws; simp
  | l :: k :: r => by
    show rws (l ++ (10 :: TL.joinL [10] (k :: r))) = _
    rw [rws_app, rws_join (k :: r)]
    exact (List.flatMap_cons ..).symm
/-! what the program sees of a text -/
def RowW (z : Str) : List Str := (Txt.split z (" " : Str)).filter fun w => decide (w ≠ "")
theorem blankS : (" " : Str) = SX.S [32] := by decide +kernel
theorem lineS : ("\n" : Str) = SX.S [10] := by decide +kernel
theorem S_ne (w : List Nat) : (SX.S w ≠ "") = (w ≠ []) := by
  have e : ("" : Str) = SX.S [] := by decide +kernel
  rw [e]
  exact propext ⟨fun h z => h (by rw [z]), fun h z => h (SX.S_inj z)⟩
theorem RowW_eq (z : Str) : RowW z = (wd (sgn z)).map SX.S := by
  unfold RowW wd
  rw [blankS, split_sp z (by decide), List.filter_map]
  congr 1
  refine List.filter_congr fun w _ => ?_
  show decide (SX.S w ≠ "") = decide (w ≠ [])
  exact decide_eq_decide.mpr (by rw [S_ne])
/-- the rows of a text, as words -/
def rowsW (z : Str) : List (List Str) := (Txt.split z ("\n" : Str)).map RowW
theorem rowsW_eq (z : Str) : (rowsW z).filter (fun w => decide (w ≠ [])) = (rws (sgn z)).map fun ws => ws.map SX.S := by
  unfold rowsW rws
  rw [lineS, split_sp z (by decide), List.map_map, List.filter_map, List.filter_map, List.map_map]
  have e : ∀ l : List Nat, RowW (SX.S l) = (wd l).map SX.S := fun l => RowW_eq (SX.S l)
  congr 1
  · funext l
    exact e l
  · refine List.filter_congr fun l _ => ?_
    show decide (RowW (SX.S l) ≠ []) = decide (wd l ≠ [])
    rw [e l]
    exact decide_eq_decide.mpr (by simp)
/-! ### what rows do -/
def figs : Str := "0123456789"
def numOk (w : Str) : Bool := (decide (1 ≤ (w.length : Int)) && decide ((w.length : Int) ≤ 16)) && (w.cps.toList.map fun c => decide (c ∈ figs.cps.toList)).all id
def numV (w : Str) : Int := (NumText.digitsVal w.cps.toList : Nat)
theorem fig_mem {c : Nat} : c ∈ figs.cps.toList ↔ 48 ≤ c ∧ c ≤ 57 := by
  have e : figs.cps.toList = [48, 49, 50, 51, 52, 53, 54, 55, 56, 57] := by decide +kernel
  rw [e]
  simp only [List.mem_cons, List.not_mem_nil, or_false]
  omega
theorem numOk_iff (l : List Nat) : numOk (SX.S l) = true ↔ (1 ≤ l.length ∧ l.length ≤ 16) ∧ ∀ c ∈ l, 48 ≤ c ∧ c ≤ 57 := by
  unfold numOk
  rw [Bool.and_eq_true, Bool.and_eq_true, decide_eq_true_iff, decide_eq_true_iff, SX.S_len, List.all_eq_true]
  refine and_congr (and_congr (by omega) (by omega)) ⟨fun h c hc => ?_, fun h b hb => ?_⟩
  · exact fig_mem.mp (of_decide_eq_true (h _ (List.mem_map.mpr ⟨c, hc, rfl⟩)))
  · obtain ⟨c, hc, rfl⟩ := List.mem_map.mp hb
    exact decide_eq_true (fig_mem.mpr (h c hc))
theorem num_int {w : Str} (h : numOk w = true) : PySem.intText? w = some (numV w) ∧ w.length ≤ 640 := by
  rw [← SX.S_tl w] at h
  obtain ⟨⟨h1, h2⟩, h3⟩ := (numOk_iff _).mp h
  have hl : w.length = w.cps.toList.length := by simp [Str.length]
  refine ⟨?_, by omega⟩
  have := SX.int_S (a := w.cps.toList) (List.all_eq_true.mpr fun c hc => by
    have := h3 c hc
    rw [decide_eq_true this.1, decide_eq_true this.2]; rfl) (fun z => by rw [z] at h1; simp at h1) (by omega)
  rw [SX.S_tl] at this
  exact this
theorem numV_lo (w : Str) : 0 ≤ numV w := Int.natCast_nonneg _
/-- why a row is refused -/
inductive Rj where
  | bad | bound | gate (r : Rf)
  deriving DecidableEq
def Rj.cls (A : Ad) : Rj → Addr
  | .bad => A.CBR
  | .bound => A.CNB
  | .gate r => r.cls A
def Rj.txt : Rj → Str
  | .bad => "BadRow"
  | .bound => "NoBound"
  | .gate .name => "NoName"
  | .gate .moment => "NoMoment"
  | .gate .late => "Late"
  | .gate .cost => "NoCost"
def Ans.txt : Ans → Str
  | .opn => "open"
  | .shut o k w => Txt.join " " ["shut", if o then "own" else "common", numS (k : Int), match w with | none => "never" | some i => numS i]
structure GSt where
  people : List (Str × Vs)
  all : Vs
  latest : Int
  deriving DecidableEq
structure Tn where
  own : List Bd
  com : List Bd
  gate : Option GSt
  deriving DecidableEq
def tn0 : Tn := ⟨[], [], none⟩
def Tn.begin (s : Tn) : Tn := match s.gate with
  | none => { s with gate := some ⟨[], [], 0⟩ }
  | some _ => s
def Tn.g (s : Tn) : GSt := match s.gate with
  | none => ⟨[], [], 0⟩
  | some g => g
abbrev RA := Rj ⊕ Str
def bdW (kind : Str) (a b : Int) : Bd := if kind = "jar" then .jar a b else .win a b
def bdOk : Bd → Bool
  | .jar s f => goodB (some s) 1 1000000000000000 && goodB (some f) 0 1000000000
  | .win m s => goodB (some m) 1 1000000000000000 && goodB (some s) 1 1000000000000
theorem bdOk_iff (b : Bd) : bdOk b = true ↔ b.ok := by
  cases b with
  | jar s f =>
    show ((decide (1 ≤ s) && decide (s ≤ 1000000000000000)) && (decide (0 ≤ f) && decide (f ≤ 1000000000))) = true ↔ (1 ≤ s ∧ s ≤ 1000000000000000) ∧ 0 ≤ f ∧ f ≤ 1000000000
    simp
  | win m s =>
    show ((decide (1 ≤ m) && decide (m ≤ 1000000000000000)) && (decide (1 ≤ s) && decide (s ≤ 1000000000000))) = true ↔ (1 ≤ m ∧ m ≤ 1000000000000000) ∧ 1 ≤ s ∧ s ≤ 1000000000000
    simp
def Tn.lim (s : Tn) (w : Str) : List Bd := if w = "own" then s.own else s.com
def Tn.add (s : Tn) (w : Str) (b : Bd) : Tn := if w = "own" then { s with own := s.own ++ [b] } else { s with com := s.com ++ [b] }
def at_ (ws : List Str) (i : Nat) : Str := ws.getD i ""
def boundA (s : Tn) (ws : List Str) : RA × Tn :=
  if ws.length ≠ 4 then (.inl .bad, s)
  else if (s.gate.isSome || !decide (at_ ws 1 ∈ (["jar", "window"] : List Str))) = true then (.inl .bad, s)
  else if numOk (at_ ws 2) = false then (.inl .bad, s)
  else if numOk (at_ ws 3) = false then (.inl .bad, s)
  else if bdOk (bdW (at_ ws 1) (numV (at_ ws 2)) (numV (at_ ws 3))) = false then (.inl .bound, s)
  else if (s.lim (at_ ws 0)).length = 4 then (.inl .bound, s)
  else (.inr "ok", s.add (at_ ws 0) (bdW (at_ ws 1) (numV (at_ ws 2)) (numV (at_ ws 3))))
/-- a visit, or one asked for, of a gate -/
def gateA (s : Tn) (visit : Bool) (nm : Str) (t c : Int) : RA × Tn := match refu s.g.latest (some nm) (some t) (some c) with
  | some r => (.inl (.gate r), s)
  | none => (.inr (ask s.own s.com s.g.people s.g.all nm t c).txt,
      if (visit && decide (ask s.own s.com s.g.people s.g.all nm t c = .opn)) = true then { s with gate := some ⟨putP s.g.people nm (mine s.g.people nm ++ [(t, c)]), s.g.all ++ [(t, c)], t⟩ } else s)
def visitA (s : Tn) (ws : List Str) : RA × Tn :=
  if ws.length ≠ 4 then (.inl .bad, s)
  else if numOk (at_ ws 2) = false then (.inl .bad, s)
  else if numOk (at_ ws 3) = false then (.inl .bad, s)
  else gateA s.begin (!decide (at_ ws 0 = "ask")) (at_ ws 1) (numV (at_ ws 2)) (numV (at_ ws 3))
/-- the names, rising -/
def namesT (ys : List Str) : Str := if (Txt.join (" " : Str) ys).length = 0 then "-" else Txt.join " " ys
open Classical in
noncomputable def sortN (xs : List Str) : List Str := if h : ∃ ys : List Str, ys.Perm xs ∧ PyProof.Rows.sortedS ys = true then Classical.choose h else []
theorem sortN_eq {xs ys : List Str} (h1 : ys.Perm xs) (h2 : PyProof.Rows.sortedS ys = true) : sortN xs = ys := by
  have h : ∃ ys : List Str, ys.Perm xs ∧ PyProof.Rows.sortedS ys = true := ⟨ys, h1, h2⟩
  unfold sortN
  rw [dif_pos h]
  obtain ⟨c1, c2⟩ := Classical.choose_spec h
  exact sortedS_uniq (c1.trans h1.symm) c2 h2
noncomputable def restA (s : Tn) (ws : List Str) : RA × Tn :=
  if (!decide (at_ ws 0 ∈ (["names", "kept"] : List Str))) = true then (.inl .bad, s)
  else if ws.length ≠ 1 then (.inl .bad, s)
  else if at_ ws 0 = "kept" then (.inr (numS (keptOf s.begin.own s.begin.com s.begin.g.people s.begin.g.all)), s.begin)
  else (.inr (namesT (sortN (s.begin.g.people.map (·.1)))), s.begin)
noncomputable def rowA (s : Tn) (ws : List Str) : RA × Tn :=
  if at_ ws 0 ∈ (["own", "common"] : List Str) then boundA s ws
  else if at_ ws 0 ∈ (["ask", "visit"] : List Str) then visitA s ws
  else restA s ws
def ansT : RA → Str
  | .inl r => "refused: " ++ r.txt
  | .inr z => z
noncomputable def stepA (p : Tn × List Str) (ws : List Str) : Tn × List Str := if ws = [] then p else ((rowA p.1 ws).2, p.2 ++ [ansT (rowA p.1 ws).1])
noncomputable def playW (rows : List (List Str)) : Tn × List Str := rows.foldl stepA (tn0, [])
noncomputable def playT (z : Str) : List Str := (playW (rowsW z)).2
theorem fold_filter : ∀ (rows : List (List Str)) (p : Tn × List Str), rows.foldl stepA p = (rows.filter fun w => decide (w ≠ [])).foldl stepA p
  | [], _ => rfl
  | ws :: r, p => by
    rw [List.foldl_cons, List.filter_cons]
    by_cases h : ws = []
    · rw [show stepA p ws = p from if_pos h, if_neg (by simpa using h), fold_filter r p]
    · rw [if_pos (by simpa using h), List.foldl_cons, fold_filter r]
theorem playT_eq (z : Str) : playT z = (((rws (sgn z)).map fun ws => ws.map SX.S).foldl stepA (tn0, [])).2 := by
  unfold playT playW
  rw [fold_filter, rowsW_eq]

/-! ### numbers that stay small -/
def POk (p : Int × Int) : Prop := (0 ≤ p.1 ∧ p.1 ≤ 1000000000000) ∧ 1 ≤ p.2 ∧ p.2 ≤ 1000000000
structure TnOk (s : Tn) : Prop where
  okO : ∀ b ∈ s.own, b.ok
  okC : ∀ b ∈ s.com, b.ok
  lO : s.own.length ≤ 4
  lC : s.com.length ≤ 4
  all : ∀ p ∈ s.g.all, POk p
  ppl : ∀ q ∈ s.g.people, ∀ p ∈ q.2, POk p
  pln : PplLen s.g.people s.g.all.length
  pl2 : s.g.people.length ≤ s.g.all.length
  nm : ∀ q ∈ s.g.people, q.1.length ≤ 8
theorem begin_g (s : Tn) : s.begin.g = s.g ∧ s.begin.own = s.own ∧ s.begin.com = s.com ∧ s.begin.gate.isSome = true := by
  unfold Tn.begin Tn.g
  cases e : s.gate with
  | none => exact ⟨rfl, rfl, rfl, rfl⟩
  | some g => simp only [e]; exact ⟨trivial, trivial, trivial, rfl⟩
theorem TnOk.begin {s : Tn} (h : TnOk s) : TnOk s.begin := by
  obtain ⟨e1, e2, e3, _⟩ := begin_g s
  exact ⟨by rw [e2]; exact h.okO, by rw [e3]; exact h.okC, by rw [e2]; exact h.lO, by rw [e3]; exact h.lC, by rw [e1]; exact h.all, by rw [e1]; exact h.ppl, by rw [e1]; exact h.pln, by rw [e1]; exact h.pl2, by rw [e1]; exact h.nm⟩
theorem sumc_bd {vs : Vs} (h : ∀ p ∈ vs, POk p) : 0 ≤ sumc vs ∧ sumc vs ≤ 1000000000 * (vs.length : Int) := by
  induction vs with
  | nil => exact ⟨Int.le_refl _, Int.le_refl _⟩
  | cons v r ih =>
    obtain ⟨a, b⟩ := ih fun p hp => h p (List.mem_cons_of_mem _ hp)
    have := h v List.mem_cons_self
    obtain ⟨_, c1, c2⟩ := this
    show 0 ≤ v.2 + sumc r ∧ v.2 + sumc r ≤ 1000000000 * ((r.length + 1 : Nat) : Int)
    omega
theorem wgo_hi {b : Bd} {t c : Int} (ok : b.ok) (ht : 0 ≤ t) (hc : 0 ≤ c) (hc2 : c ≤ 1000000000) : ∀ {vs : Vs} {f : Int}, (∀ p ∈ vs, POk p) → vs.length ≤ 1000 → wgo b t c vs = some f → 0 ≤ f ∧ f ≤ 100000000000000
  | [], f, _, _, h => by cases h; omega
  | v :: r, f, hp, hl, h => by
    have h' : (match wgo b t c r with | none => none | some f => if b.sz < c + sumc (v :: r) then b.wnew f v.1 (c + sumc (v :: r)) t else some f) = some f := h
    cases e : wgo b t c r with
    | none => rw [e] at h'; cases h'
    | some f0 =>
      rw [e] at h'
      obtain ⟨i1, i2⟩ := wgo_hi ok ht hc hc2 (vs := r) (fun p hq => hp p (List.mem_cons_of_mem _ hq)) (by simp only [List.length_cons] at hl; omega) e
      have hs := sumc_bd hp
      have hv := (hp v List.mem_cons_self).1
      by_cases z : b.sz < c + sumc (v :: r)
      · have h2 : b.wnew f0 v.1 (c + sumc (v :: r)) t = some f := by
          have := h'
          simp only [z, if_true] at this
          exact this
        generalize sumc (v :: r) = u at *
        cases b with
        | win m s =>
          cases h2
          have := ok.2
          omega
        | jar s p =>
          have h3 : (if p = 0 then none else some (max f0 (v.1 + (c + u - s + p - 1) / p - t))) = some f := h2
          by_cases y : p = 0
          · rw [if_pos y] at h3; cases h3
          · rw [if_neg y] at h3
            cases h3
            have hp0 := ok.2.1
            have hs1 := ok.1.1
            have hb : (c + u - s + p - 1) / p ≤ c + u := by
              have z : s < c + u := z
              refine Int.ediv_le_of_le_mul (by omega) ?_
              have h7 : 0 ≤ (c + u - 1) * (p - 1) := Int.mul_nonneg (by omega) (by omega)
              have h8 : (c + u - 1) * (p - 1) = (c + u) * p - (c + u) - p + 1 := by
                rw [Int.sub_mul, Int.mul_sub, Int.mul_one, Int.one_mul]; omega
              omega
            have hl2 : ((v :: r).length : Int) ≤ 1000 := by omega
            omega
      · have h2 : some f0 = some f := by
          have := h'
          simp only [z, if_false] at this
          exact this
        cases h2
        exact ⟨i1, i2⟩
theorem wait_hi {b : Bd} {vs : Vs} {t c f : Int} (ok : b.ok) (ht : 0 ≤ t) (hc : 0 ≤ c) (hc2 : c ≤ 1000000000) (hp : ∀ p ∈ vs, POk p) (hl : vs.length ≤ 1000) (h : m_law_wait b vs t c = some f) : 0 ≤ f ∧ f ≤ 100000000000000 := by
  unfold m_law_wait at h
  split at h
  · cases h
  · exact wgo_hi ok ht hc hc2 hp hl h
def AnsOk (a : Ans) : Prop := ∀ o k w, a = .shut o k w → k ≤ 100 ∧ ∀ i, w = some i → 0 ≤ i ∧ i ≤ 100000000000000
theorem nums_mem {W : List (Option Int)} {i : Int} (h : i ∈ nums W) : some i ∈ W := by
  unfold nums at h
  obtain ⟨o, ho, e⟩ := List.mem_filterMap.mp h
  cases o with
  | none => cases e
  | some j => cases e; exact ho
theorem shutL_lt {W : List (Option Int)} {k : Nat} (h : k ∈ shutL W) : k < W.length := List.mem_range.mp (List.mem_filter.mp h).1
theorem ansOf_ok {W : List (Option Int)} {m : Nat} (hl : W.length ≤ 100) (hw : ∀ i, some i ∈ W → 0 ≤ i ∧ i ≤ 100000000000000) : AnsOk (ansOf W m) := by
  intro o k w h
  have hwait : ∀ i, waitOf W = some i → W ≠ [] → 0 ≤ i ∧ i ≤ 100000000000000 := fun i hi hne => by
    unfold waitOf at hi
    split at hi
    · cases hi
    · rename_i hn
      cases hi
      have h0 : nums W ≠ [] := fun z => by
        have := nums_len hn
        rw [z] at this
        exact hne (List.eq_nil_of_length_eq_zero this.symm)
      exact hw _ (nums_mem (maxL_mem h0))
  unfold ansOf at h
  cases e : shutL W with
  | nil => rw [e] at h; cases h
  | cons k0 r =>
    rw [e] at h
    have hk0 := shutL_lt (W := W) (k := k0) (by rw [e]; exact List.mem_cons_self)
    have hne : W ≠ [] := fun z => by rw [z] at hk0; cases hk0
    have h' : (if k0 < m then Ans.shut true k0 (waitOf W) else Ans.shut false (k0 - m) (waitOf W)) = Ans.shut o k w := h
    split at h'
    · cases h'; exact ⟨by omega, fun i hi => hwait i hi hne⟩
    · cases h'; exact ⟨by omega, fun i hi => hwait i hi hne⟩
theorem mine_ok {people : List (Str × Vs)} (h : ∀ q ∈ people, ∀ p ∈ q.2, POk p) (nm : Str) : ∀ p ∈ mine people nm, POk p := by
  unfold mine
  cases e : people.find? (fun p => decide (p.1 = nm)) with
  | none => intro p hp; cases hp
  | some q => exact h q (List.mem_of_find?_eq_some e)
theorem ask_ok {s : Tn} (h : TnOk s) (hl : s.g.all.length ≤ 1000) {nm : Str} {t c : Int} (ht : 0 ≤ t) (hc : 0 ≤ c) (hc2 : c ≤ 1000000000) : AnsOk (ask s.own s.com s.g.people s.g.all nm t c) := by
  unfold ask
  have hlO := h.lO
  have hlC := h.lC
  refine ansOf_ok (by rw [List.length_append, waitsOf_len, waitsOf_len]; omega) fun i hi => ?_
  rcases List.mem_append.mp hi with hi | hi
  · obtain ⟨b, hb, e⟩ := List.mem_map.mp hi
    exact wait_hi (h.okO b hb) ht hc hc2 (mine_ok h.ppl nm) (Nat.le_trans (mine_len h.pln nm) hl) e
  · obtain ⟨b, hb, e⟩ := List.mem_map.mp hi
    exact wait_hi (h.okC b hb) ht hc hc2 h.all hl e
theorem small_log {i : Int} (h0 : 0 ≤ i) (h1 : i ≤ 1000000000000000000) : i.natAbs.log2 < 1920 := by
  by_cases z : i.natAbs = 0
  · rw [z]; decide
  · refine (Nat.log2_lt z).mpr (Nat.lt_of_lt_of_le (show i.natAbs < 2 ^ 60 by omega) (Nat.pow_le_pow_right (by decide) (by decide)))
theorem keptP_le (bs : List Bd) (vs : Vs) : keptP bs vs ≤ (bs.length : Int) * (vs.length : Int) := by
  unfold keptP
  induction bs with
  | nil => simp
  | cons b r ih =>
    rw [List.map_cons, List.sum_cons, List.length_cons]
    have h1 : (keptB b (lastOf vs) vs : Int) ≤ (vs.length : Int) := by
      cases b with
      | jar s f => exact Int.natCast_nonneg _
      | win m s =>
        refine Int.ofNat_le.mpr ?_
        unfold keptB keepV
        exact List.length_filter_le _ _
    have h2 : ((r.length + 1 : Nat) : Int) * (vs.length : Int) = (r.length : Int) * (vs.length : Int) + (vs.length : Int) := by
      rw [Int.natCast_add, Int.add_mul, Int.natCast_one, Int.one_mul]
    omega

/-! ### the store of the rows' gate -/
structure TF where
  tu : Addr
  ld : Addr
  la : Addr
  lb : Addr
  gf : Option (Addr × Addr × List Addr × List (Str × List Addr))
def TF.gd (f : TF) : Dv := match f.gf with
  | none => .non
  | some x => .obj x.1
def tuF (ld : Addr) (gd : Dv) : List (Str × Dv) := [("limits", .obj ld), ("gate", gd)]
theorem tuF_limits (ld : Addr) (gd : Dv) : (tuF ld gd).lookup ("limits" : Str) = some (.obj ld) := lookup_hit
theorem tuF_gate (ld : Addr) (gd : Dv) : (tuF ld gd).lookup ("gate" : Str) = some gd := (lookup_miss (by decide +kernel)).trans lookup_hit
theorem tuF_no (ld : Addr) (gd : Dv) {g : Str} (h1 : ¬ g = "limits") (h2 : ¬ g = "gate") : (tuF ld gd).lookup g = none := (lookup_miss h1).trans (lookup_miss h2)
theorem tu_init (a b : Dv) : putD "gate" b (putD "limits" a []) = ([("limits", a), ("gate", b)] : List (Str × Dv)) := by
  rw [putD_nil (f := "limits"), putD_miss (f := "gate") (g := "limits") (by decide +kernel), putD_nil (f := "gate")]
theorem tu_gate (ld : Addr) (a b : Dv) : putD "gate" b (tuF ld a) = tuF ld b := by
  unfold tuF
  rw [putD_miss (f := "gate") (g := "limits") (by decide +kernel), putD_hit]
def TF.has (f : TF) (b : Addr) : Prop := b = f.tu ∨ b = f.ld ∨ b = f.la ∨ b = f.lb ∨ ∃ x, f.gf = some x ∧ Foot x.1 x.2.1 x.2.2.1 x.2.2.2 b
structure TurnAt (A : Ad) (μ : M) (f : TF) (s : Tn) : Prop where
  obj : μ f.tu = some (.ins A.CTU (tuF f.ld f.gd))
  dic : μ f.ld = some (.dic [((.inr "own" : Key), .obj f.la), ((.inr "common" : Key), .obj f.lb)])
  lo : μ f.la = some (.lst (s.own.map (Bd.pv A)))
  lc : μ f.lb = some (.lst (s.com.map (Bd.pv A)))
  ab : f.la ≠ f.lb
  ok : TnOk s
  no : f.gf = none → s.gate = none
  gt : ∀ x, f.gf = some x → s.gate.isSome = true ∧ GateAt A μ x.1 s.own s.com s.g.people s.g.all s.g.latest x.2.1 x.2.2.1 x.2.2.2 ∧ ∀ b, Foot x.1 x.2.1 x.2.2.1 x.2.2.2 b → b ≠ f.tu ∧ b ≠ f.ld ∧ b ≠ f.la ∧ b ≠ f.lb
theorem TurnAt.frame {A : Ad} {μ μ' : M} {f : TF} {s : Tn} (T : TurnAt A μ f s) (e : ∀ b, f.has b → ∀ o, μ b = some o → μ' b = some o) : TurnAt A μ' f s :=
  { T with
    obj := e _ (.inl rfl) _ T.obj
    dic := e _ (.inr (.inl rfl)) _ T.dic
    lo := e _ (.inr (.inr (.inl rfl))) _ T.lo
    lc := e _ (.inr (.inr (.inr (.inl rfl)))) _ T.lc
    gt := fun x hx => by
      obtain ⟨h1, h2, h3⟩ := T.gt x hx
      exact ⟨h1, h2.frame fun b hb o ho => e b (.inr (.inr (.inr (.inr ⟨x, hx, hb⟩)))) o ho, h3⟩ }
theorem TurnAt.ext {A : Ad} {μ μ' : M} {f : TF} {s : Tn} (T : TurnAt A μ f s) (e : ExtM μ μ') : TurnAt A μ' f s := T.frame fun b _ o ho => e b o ho
theorem TurnAt.there {A : Ad} {μ : M} {f : TF} {s : Tn} (T : TurnAt A μ f s) {b : Addr} (h : f.has b) : ∃ o, μ b = some o := by
  rcases h with rfl | rfl | rfl | rfl | ⟨x, hx, h⟩
  · exact ⟨_, T.obj⟩
  · exact ⟨_, T.dic⟩
  · exact ⟨_, T.lo⟩
  · exact ⟨_, T.lc⟩
  · exact (T.gt x hx).2.1.foot h
theorem TurnAt.new {A : Ad} {μ : M} {f : TF} {s : Tn} (T : TurnAt A μ f s) {b : Addr} (h : μ b = none) : ¬ f.has b := fun z => by
  obtain ⟨o, e⟩ := T.there z
  rw [h] at e
  cases e
structure Nxt (A : Ad) (μ : M) (f : TF) (μ' : M) (f' : TF) (s' : Tn) : Prop where
  at_ : TurnAt A μ' f' s'
  tu : f'.tu = f.tu
  keep : ∀ b o, μ b = some o → ¬ f.has b → μ' b = some o
  fresh : ∀ b, f'.has b → f.has b ∨ μ b = none
theorem Nxt.ext {A : Ad} {μ μ' : M} {f : TF} {s : Tn} (T : TurnAt A μ f s) (e : ExtM μ μ') : Nxt A μ f μ' f s := ⟨T.ext e, rfl, fun b o h _ => e b o h, fun _ h => .inl h⟩
theorem Nxt.trans {A : Ad} {μ μ1 μ2 : M} {f f1 f2 : TF} {s1 s2 : Tn} (a : Nxt A μ f μ1 f1 s1) (b : Nxt A μ1 f1 μ2 f2 s2) : Nxt A μ f μ2 f2 s2 where
  at_ := b.at_
  tu := b.tu.trans a.tu
  keep := fun x o h hn => b.keep x o (a.keep x o h hn) fun z => (a.fresh x z).elim hn fun y => by rw [h] at y; cases y
  fresh := fun x h => (b.fresh x h).elim (a.fresh x) fun y => by
    by_cases z : f.has x
    · exact .inl z
    · refine .inr ?_
      cases q : μ x with
      | none => rfl
      | some o => rw [a.keep x o q z] at y; cases y
theorem TurnAt.gd_eq {A : Ad} {μ : M} {f : TF} {s : Tn} (T : TurnAt A μ f s) : (!isNonD f.gd) = s.gate.isSome := by
  unfold TF.gd
  cases e : f.gf with
  | none => rw [T.no e]; rfl
  | some x => rw [(T.gt x e).1]; rfl
def TF.lim (f : TF) (w : Str) : Addr := if w = "own" then f.la else f.lb
theorem TurnAt.lim {A : Ad} {μ : M} {f : TF} {s : Tn} (T : TurnAt A μ f s) (w : Str) : μ (f.lim w) = some (.lst ((s.lim w).map (Bd.pv A))) := by
  unfold TF.lim Tn.lim
  split
  · exact T.lo
  · exact T.lc
theorem TF.val (f : TF) {w : Str} (h : w ∈ (["own", "common"] : List Str)) : valD [((.inr "own" : Key), Dv.obj f.la), ((.inr "common" : Key), .obj f.lb)] (.inr w) = some (.obj (f.lim w)) := by
  have hne : ¬ (("common" : Str) = "own") := by decide +kernel
  simp only [List.mem_cons, List.not_mem_nil, or_false] at h
  rcases h with rfl | rfl
  · unfold valD TF.lim; simp
  · unfold valD TF.lim
    have h1 : ¬ ((Sum.inr ("own" : Str) : Key) = .inr "common") := fun z => hne (Sum.inr.inj z).symm
    simp [h1, hne]
theorem TurnAt.add {A : Ad} {μ : M} {f : TF} {s : Tn} (T : TurnAt A μ f s) (hg : s.gate = none) {w : Str} {b : Bd} (hb : b.ok) (hl : (s.lim w).length ≤ 4) (hn : (s.lim w).length ≠ 4) :
    Nxt A μ f (updM μ (f.lim w) (.lst ((s.lim w).map (Bd.pv A) ++ [b.pv A]))) f (s.add w b) := by
  have hgf : f.gf = none := by
    cases e : f.gf with
    | none => rfl
    | some x => have := (T.gt x e).1; rw [hg] at this; cases this
  have nl : ∀ {a : Addr} {o : MO}, μ a = some o → (∀ xs, o ≠ .lst xs) → a ≠ f.lim w := fun {a o} h ho z => by
    rw [z, T.lim w] at h
    exact ho _ (Option.some.inj h).symm
  have hme : (s.lim w).map (Bd.pv A) ++ [b.pv A] = (s.lim w ++ [b]).map (Bd.pv A) := by rw [List.map_append]; rfl
  refine ⟨?_, rfl, fun a o h hn => (updM_ne fun z => hn ?_).trans h, fun _ h => .inl h⟩
  · rw [hme]
    unfold Tn.add Tn.lim TF.lim at *
    by_cases hw : w = "own"
    · rw [if_pos hw] at hl hn nl ⊢
      simp only [if_pos hw]
      exact { obj := (updM_ne (nl T.obj fun _ z => nomatch z)).trans T.obj, dic := (updM_ne (nl T.dic fun _ z => nomatch z)).trans T.dic, lo := updM_same, lc := (updM_ne T.ab.symm).trans T.lc, ab := T.ab,
              ok := { T.ok with okO := (fun c hc => (List.mem_append.mp hc).elim (T.ok.okO c) fun z => by cases List.mem_singleton.mp z; exact hb), lO := (by show (s.own ++ [b]).length ≤ 4; rw [List.length_append]; simp only [List.length_cons, List.length_nil]; omega) },
              no := fun _ => hg, gt := fun x hx => by rw [hgf] at hx; cases hx }
    · rw [if_neg hw] at hl hn nl ⊢
      simp only [if_neg hw]
      exact { obj := (updM_ne (nl T.obj fun _ z => nomatch z)).trans T.obj, dic := (updM_ne (nl T.dic fun _ z => nomatch z)).trans T.dic, lc := updM_same, lo := (updM_ne T.ab).trans T.lo, ab := T.ab,
              ok := { T.ok with okC := (fun c hc => (List.mem_append.mp hc).elim (T.ok.okC c) fun z => by cases List.mem_singleton.mp z; exact hb), lC := (by show (s.com ++ [b]).length ≤ 4; rw [List.length_append]; simp only [List.length_cons, List.length_nil]; omega) },
              no := fun _ => hg, gt := fun x hx => by rw [hgf] at hx; cases hx }
  · rw [z]
    unfold TF.lim
    split
    · exact .inr (.inr (.inl rfl))
    · exact .inr (.inr (.inr (.inl rfl)))
theorem TnOk.visit {s : Tn} (h : TnOk s) {nm : Str} {t c : Int} (hp : POk (t, c)) (hn : nm.length ≤ 8) : TnOk { s with gate := some ⟨putP s.g.people nm (mine s.g.people nm ++ [(t, c)]), s.g.all ++ [(t, c)], t⟩ } := by
  have hm := mine_ok h.ppl nm
  refine ⟨h.okO, h.okC, h.lO, h.lC, fun p hq => ?_, fun q hq p hpq => ?_, ?_, ?_, fun q hq => ?_⟩
  · rcases List.mem_append.mp hq with hq | hq
    · exact h.all p hq
    · cases List.mem_singleton.mp hq; exact hp
  · rcases putP_mem hq with ⟨_, e⟩ | hq
    · rw [e] at hpq
      rcases List.mem_append.mp hpq with hpq | hpq
      · exact hm p hpq
      · cases List.mem_singleton.mp hpq; exact hp
    · exact h.ppl q hq p hpq
  · show PplLen (putP s.g.people nm (mine s.g.people nm ++ [(t, c)])) (s.g.all ++ [(t, c)]).length
    rw [List.length_append]
    exact putP_len h.pln (by rw [List.length_append]; have := mine_len h.pln nm; simp only [List.length_cons, List.length_nil]; omega)
  · show (putP s.g.people nm (mine s.g.people nm ++ [(t, c)])).length ≤ (s.g.all ++ [(t, c)]).length
    have := h.pl2
    unfold putP
    rw [List.length_append]
    split
    · rw [List.length_map]; omega
    · rw [List.length_append]; simp only [List.length_cons, List.length_nil]; omega
  · rcases putP_mem hq with ⟨e, _⟩ | hq
    · rw [e]; exact hn
    · exact h.nm q hq
theorem TurnAt.visit {A : Ad} {μ μ' : M} {f : TF} {s : Tn} (T : TurnAt A μ f s) {g pd : Addr} {cas : List Addr} {pas pas' : List (Str × List Addr)} (hx : f.gf = some (g, pd, cas, pas)) {nm : Str} {t c : Int} (hp : POk (t, c)) (hn : nm.length ≤ 8)
    (G : GateAt A μ' g s.own s.com (putP s.g.people nm (mine s.g.people nm ++ [(t, c)])) (s.g.all ++ [(t, c)]) t pd cas pas') (keep : ∀ b o, μ b = some o → b ≠ g → b ≠ pd → b ∉ cas → (∀ p ∈ pas, b ∉ p.2) → μ' b = some o)
    (fresh : ∀ b, Foot g pd cas pas' b → Foot g pd cas pas b ∨ μ b = none) :
    Nxt A μ f μ' { f with gf := some (g, pd, cas, pas') } { s with gate := some ⟨putP s.g.people nm (mine s.g.people nm ++ [(t, c)]), s.g.all ++ [(t, c)], t⟩ } := by
  obtain ⟨h1, h2, h3⟩ := T.gt _ hx
  have kp : ∀ b o, μ b = some o → ¬ Foot g pd cas pas b → μ' b = some o := fun b o h hf => keep b o h (fun z => hf (.inl z)) (fun z => hf (.inr (.inl z))) (fun z => hf (.inr (.inr (.inl z)))) fun p hp z => hf (.inr (.inr (.inr ⟨p, hp, z⟩)))
  have out : ∀ b, (b = f.tu ∨ b = f.ld ∨ b = f.la ∨ b = f.lb) → ¬ Foot g pd cas pas b := fun b hb z => by
    obtain ⟨n1, n2, n3, n4⟩ := h3 b z
    rcases hb with e | e | e | e
    · exact n1 e
    · exact n2 e
    · exact n3 e
    · exact n4 e
  refine ⟨⟨?_, kp _ _ T.dic (out _ (.inr (.inl rfl))), kp _ _ T.lo (out _ (.inr (.inr (.inl rfl)))), kp _ _ T.lc (out _ (.inr (.inr (.inr rfl)))), T.ab, T.ok.visit hp hn, (fun z => nomatch z), fun x e => ?_⟩, rfl, fun b o h hb => ?_, fun b hb => ?_⟩
  · have := kp _ _ T.obj (out _ (.inl rfl))
    rw [show f.gd = .obj g by unfold TF.gd; rw [hx]] at this
    exact this
  · cases e
    refine ⟨rfl, G, fun b hb => ?_⟩
    rcases fresh b hb with z | z
    · exact h3 b z
    · have no : ∀ a o, μ a = some o → b ≠ a := fun a o h e => by rw [e, h] at z; cases z
      exact ⟨no _ _ T.obj, no _ _ T.dic, no _ _ T.lo, no _ _ T.lc⟩
  · exact kp b o h fun z => hb (.inr (.inr (.inr (.inr ⟨_, hx, z⟩))))
  · rcases hb with e | e | e | e | ⟨x, e, hb⟩
    · exact .inl (.inl e)
    · exact .inl (.inr (.inl e))
    · exact .inl (.inr (.inr (.inl e)))
    · exact .inl (.inr (.inr (.inr (.inl e))))
    · cases e
      rcases fresh b hb with z | z
      · exact .inl (.inr (.inr (.inr (.inr ⟨_, hx, z⟩))))
      · exact .inr z
/-- the gate is made -/
theorem TurnAt.made {A : Ad} {μ μ' : M} {f : TF} {s : Tn} (T : TurnAt A μ f s) (hg : s.gate = none) {g pd : Addr} {cas : List Addr} (hgn : μ g = none) (G : GateAt A μ' g s.own s.com [] [] 0 pd cas []) (keep : ∀ b o, μ b = some o → μ' b = some o)
    (fresh : ∀ b, Foot g pd cas [] b → b = g ∨ μ b = none) : Nxt A μ f (updM μ' f.tu (.ins A.CTU (tuF f.ld (.obj g)))) { f with gf := some (g, pd, cas, []) } s.begin := by
  have hgf : f.gf = none := by
    cases e : f.gf with
    | none => rfl
    | some x => have := (T.gt x e).1; rw [hg] at this; cases this
  have new : ∀ b, Foot g pd cas [] b → μ b = none := fun b hb => (fresh b hb).elim (fun e => by rw [e]; exact hgn) id
  have apart : ∀ b, Foot g pd cas [] b → b ≠ f.tu ∧ b ≠ f.ld ∧ b ≠ f.la ∧ b ≠ f.lb := fun b hb => by
    have no : ∀ a o, μ a = some o → b ≠ a := fun a o h e => by have := new b hb; rw [e, h] at this; cases this
    exact ⟨no _ _ T.obj, no _ _ T.dic, no _ _ T.lo, no _ _ T.lc⟩
  obtain ⟨b1, b2, b3, b4⟩ := begin_g s
  have g0 : s.g = ⟨[], [], 0⟩ := by unfold Tn.g; rw [hg]
  have nt : ∀ {a : Addr} {o : MO}, μ a = some o → (∀ C fs, o ≠ .ins C fs) → a ≠ f.tu := fun {a o} h ho z => by
    rw [z, T.obj] at h
    exact ho _ _ (Option.some.inj h).symm
  refine ⟨⟨updM_same, (updM_ne (nt T.dic fun _ _ z => nomatch z)).trans (keep _ _ T.dic), ?_, ?_, T.ab, T.ok.begin, (fun z => nomatch z), fun x e => ?_⟩, rfl, fun b o h hb => (updM_ne fun z => hb (.inl z)).trans (keep b o h), fun b hb => ?_⟩
  · rw [b2]; exact (updM_ne (nt T.lo fun _ _ z => nomatch z)).trans (keep _ _ T.lo)
  · rw [b3]; exact (updM_ne (nt T.lc fun _ _ z => nomatch z)).trans (keep _ _ T.lc)
  · cases e
    refine ⟨b4, ?_, apart⟩
    rw [b1, b2, b3, g0]
    exact G.frame fun b hb o h => (updM_ne (apart b hb).1).trans h
  · rcases hb with e | e | e | e | ⟨x, e, hb⟩
    · exact .inl (.inl e)
    · exact .inl (.inr (.inl e))
    · exact .inl (.inr (.inr (.inl e)))
    · exact .inl (.inr (.inr (.inr (.inl e))))
    · cases e; exact .inr (new b hb)
theorem bths {A : Ad} {bs : List Bd} (h : ∀ b ∈ bs, b.ok) : All2 (Bth A) (bs.map (Bd.pv A)) (bs.map some) := bth_bds h
/-- what rows do to the number of visits -/
def isV (ws : List Str) : Bool := decide (at_ ws 0 = "visit")
theorem add_g (s : Tn) (w : Str) (b : Bd) : (s.add w b).g = s.g := by
  unfold Tn.add
  split <;> rfl
theorem gateA_len (s : Tn) (v : Bool) (nm : Str) (t c : Int) : (gateA s v nm t c).2.g.all.length ≤ s.g.all.length + 1 ∧ (v = false → (gateA s v nm t c).2.g.all.length ≤ s.g.all.length) := by
  unfold gateA
  split
  · exact ⟨Nat.le_succ _, fun _ => Nat.le_refl _⟩
  · split
    · rename_i h
      refine ⟨?_, fun z => by rw [z] at h; simp at h⟩
      show (s.g.all ++ [(t, c)]).length ≤ _
      rw [List.length_append]; exact Nat.le_refl _
    · exact ⟨Nat.le_succ _, fun _ => Nat.le_refl _⟩
theorem rowA_len (s : Tn) (ws : List Str) : (rowA s ws).2.g.all.length ≤ s.g.all.length + (if isV ws = true then 1 else 0) := by
  obtain ⟨b1, _, _, _⟩ := begin_g s
  unfold rowA
  split
  · unfold boundA
    split
    · exact Nat.le_add_right _ _
    split
    · exact Nat.le_add_right _ _
    split
    · exact Nat.le_add_right _ _
    split
    · exact Nat.le_add_right _ _
    split
    · exact Nat.le_add_right _ _
    split
    · exact Nat.le_add_right _ _
    · rename_i h1 h2 _ _ _ _
      have e := add_g s (at_ ws 0) (bdW (at_ ws 1) (numV (at_ ws 2)) (numV (at_ ws 3)))
      show (s.add (at_ ws 0) (bdW (at_ ws 1) (numV (at_ ws 2)) (numV (at_ ws 3)))).g.all.length ≤ _
      rw [e]
      exact Nat.le_add_right _ _
  · split
    · rename_i hv
      unfold visitA
      split
      · exact Nat.le_add_right _ _
      split
      · exact Nat.le_add_right _ _
      split
      · exact Nat.le_add_right _ _
      have h := gateA_len s.begin (!decide (at_ ws 0 = "ask")) (at_ ws 1) (numV (at_ ws 2)) (numV (at_ ws 3))
      rw [b1] at h
      by_cases z : at_ ws 0 = "ask"
      · have := h.2 (by rw [decide_eq_true z]; rfl)
        exact Nat.le_trans this (Nat.le_add_right _ _)
      · have hvv : at_ ws 0 = "visit" := by
          simp only [List.mem_cons, List.not_mem_nil, or_false] at hv
          exact hv.resolve_left z
        rw [if_pos (show isV ws = true from decide_eq_true hvv)]
        exact h.1
    · unfold restA
      split
      · exact Nat.le_add_right _ _
      split
      · exact Nat.le_add_right _ _
      split
      · show s.begin.g.all.length ≤ _; rw [b1]; exact Nat.le_add_right _ _
      · show s.begin.g.all.length ≤ _; rw [b1]; exact Nat.le_add_right _ _
def RowIn (s : Tn) (ws : List Str) : Prop := (ws.length < 2000000 ∧ (∀ w ∈ ws, w.length < 2000000) ∧ ws ≠ []) ∧ s.g.all.length ≤ 63
def RowSp (A : Ad) (fn : Tn → List Str → RA × Tn) (P : List Str → Prop) : DSp := fun ds μ kd ke => ∃ (f : TF) (s : Tn) (ws : List Str), ds = [.obj f.tu, .lst (ws.map Dv.str)] ∧ TurnAt A μ f s ∧ RowIn s ws ∧ P ws ∧
  (∀ r s', fn s ws = (.inl r, s') → ∀ f' μ', Nxt A μ f μ' f' s' → ke (.ref (r.cls A)) [] μ') ∧ (∀ z s', fn s ws = (.inr z, s') → ∀ f' μ', Nxt A μ f μ' f' s' → kd (.str z) μ')
section
def S_name_of (A : Ad) : DSp := fun ds μ kd _ => ∃ r : Rj, ds = [.exc (r.cls A) []] ∧ kd (.str r.txt) μ
def S_number_of (A : Ad) : DSp := fun ds μ kd ke => ∃ w : Str, ds = [.str w] ∧ w.length < 2000000 ∧ (numOk w = true → kd (.int (numV w)) μ) ∧ (numOk w = false → ke (.ref A.CBR) [] μ)
def S_need_words (A : Ad) : DSp := fun ds μ kd ke => ∃ (ws : List Str) (n : Int), ds = [.lst (ws.map Dv.str), .int n] ∧ ws.length < 2000000 ∧ ((ws.length : Int) = n → kd .non μ) ∧ ((ws.length : Int) ≠ n → ke (.ref A.CBR) [] μ)
def S_answer_text (A : Ad) : DSp := fun ds μ kd _ => ∃ a : Ans, ds = [a.dv] ∧ AnsOk a ∧ kd (.str a.txt) μ
def S_Turns_init (A : Ad) : DSp := fun ds μ kd _ => ∃ tu : Addr, ds = [.obj tu] ∧ μ tu = some (.ins A.CTU []) ∧ ∀ f μ', TurnAt A μ' f tn0 → f.tu = tu → (∀ a o, μ a = some o → a ≠ tu → μ' a = some o) → (∀ b, f.has b → b = tu ∨ μ b = none) → kd .non μ'
def S_Turns_begin (A : Ad) : DSp := fun ds μ kd _ => ∃ (f : TF) (s : Tn), ds = [.obj f.tu] ∧ TurnAt A μ f s ∧ ∀ f' μ' x, Nxt A μ f μ' f' s.begin → f'.gf = some x → kd .non μ'
def S_Turns_bound_row (A : Ad) : DSp := RowSp A boundA fun ws => at_ ws 0 ∈ (["own", "common"] : List Str)
def S_Turns_visit_row (A : Ad) : DSp := RowSp A visitA fun ws => at_ ws 0 ∈ (["ask", "visit"] : List Str)
def S_Turns_answer_to (A : Ad) : DSp := RowSp A rowA fun _ => True
def S_play (A : Ad) : DSp := fun ds μ kd _ => ∃ z : Str, ds = [.str z] ∧ z.length ≤ 1000000 ∧ (∀ c ∈ sgn z, c < 128) ∧ (rowsW z).countP isV ≤ 63 ∧ ∀ μ', ExtM μ μ' → kd (.lst ((playT z).map Dv.str)) μ'
end
theorem strOk_of {z : Str} (h : ∀ c ∈ sgn z, c < 128) : PyData.strOk z = true := by
  unfold PyData.strOk
  rw [← Array.all_toList, List.all_eq_true]
  intro c hc
  have := h c hc
  exact decide_eq_true (by omega)
theorem at_lt {ws : List Str} {n : Nat} (h : ∀ w ∈ ws, w.length < n) {j : Nat} (hj : j < ws.length) : (at_ ws j).length < n := by
  unfold at_
  rw [List.getD_eq_getElem?_getD, List.getElem?_eq_getElem hj]
  exact h _ (List.getElem_mem _)
theorem numS_nat (n : Nat) : numS (n : Int) = SX.S (TL.numL n) := SX.num_S n
theorem numS_len {i : Int} (h0 : 0 ≤ i) (h1 : i < 1000000000000000000) : (numS i).length ≤ 18 := by
  obtain ⟨n, rfl⟩ : ∃ n : Nat, i = (n : Int) := ⟨i.toNat, by omega⟩
  rw [numS_nat, SX.S_len]
  exact TL.numL_len (by decide) (by omega)
theorem ans_len {o : Bool} {k : Nat} {z : Str} (hk : k ≤ 100) (hz : z.length ≤ 18) : (([("shut" : Str), if o then "own" else "common", numS (k : Int), z].map (·.length)).sum + ([("shut" : Str), if o then "own" else "common", numS (k : Int), z] : List Str).length * (" " : Str).length ≤ 16777216) := by
  have h1 : ("shut" : Str).length = 4 := by decide +kernel
  have h2 : (if o then ("own" : Str) else "common").length ≤ 6 := by cases o <;> decide +kernel
  have h3 := numS_len (i := (k : Int)) (by omega) (by omega)
  have h4 : (" " : Str).length = 1 := by decide +kernel
  simp only [List.map_cons, List.map_nil, List.sum_cons, List.sum_nil, List.length_cons, List.length_nil, h1, h4]
  omega
section
variable {K : Kf} {μ : M} {k : DK}
/-- a word at a place -/
theorem d_ixW {ws : List Str} {i : Int} (j : Nat) (e : i = (j : Int)) (h : j < ws.length) (hk : k (.str (at_ ws j)) μ) : DOp K (rIx K) (.lst (ws.map Dv.str)) (.int i) μ k := by
  refine d_ixMap Dv.str ws "" (.lst _) (by omega) (by omega) ?_
  rw [show i.toNat = j by omega]
  exact hk
end
theorem keptP_nonneg (bs : List Bd) (vs : Vs) : 0 ≤ keptP bs vs := by
  unfold keptP
  induction bs with
  | nil => exact Int.le_refl _
  | cons b r ih => rw [List.map_cons, List.sum_cons]; omega
theorem keptOf_nonneg (O C : List Bd) (people : List (Str × Vs)) (all : Vs) : 0 ≤ keptOf O C people all := by
  unfold keptOf
  have h1 := keptP_nonneg C all
  have h2 : 0 ≤ (people.map fun q => keptP O q.2).sum := by
    induction people with
    | nil => exact Int.le_refl _
    | cons q r ih => rw [List.map_cons, List.sum_cons]; have := keptP_nonneg O q.2; omega
  omega
theorem keptP_hi {bs : List Bd} {vs : Vs} (h1 : bs.length ≤ 4) (h2 : vs.length ≤ 63) : keptP bs vs ≤ 252 := by
  have h := keptP_le bs vs
  have : (bs.length : Int) * (vs.length : Int) ≤ 4 * 63 := Int.mul_le_mul (by omega) (by omega) (by omega) (by omega)
  omega
theorem kept_hi {s : Tn} (ok : TnOk s) (hal : s.g.all.length ≤ 63) : keptOf s.own s.com s.g.people s.g.all ≤ 1000000000000000000 := by
  unfold keptOf
  have h1 := keptP_hi ok.lC hal
  have h2 : ∀ people : List (Str × Vs), (∀ q ∈ people, q.2.length ≤ 63) → (people.map fun q => keptP s.own q.2).sum ≤ 252 * (people.length : Int) := fun people => by
    induction people with
    | nil => intro _; exact Int.le_refl _
    | cons q r ih =>
      intro h
      have e1 := ih fun p hp => h p (List.mem_cons_of_mem _ hp)
      have e2 := keptP_hi ok.lO (h q List.mem_cons_self)
      rw [List.map_cons, List.sum_cons, List.length_cons]
      omega
  have h3 := h2 s.g.people fun q hq => Nat.le_trans (ok.pln q hq) hal
  have h4 := ok.pl2
  omega
theorem names_len {s : Tn} (ok : TnOk s) (hal : s.g.all.length ≤ 63) {ys : List Str} (h : ys.Perm (s.g.people.map (·.1))) : (ys.map (·.length)).sum + ys.length * (" " : Str).length ≤ 16777216 := by
  have h1 : ys.length ≤ 63 := by have := h.length_eq; rw [List.length_map] at this; have := ok.pl2; omega
  have h2 : ∀ zs : List Str, (∀ z ∈ zs, z.length ≤ 8) → (zs.map (·.length)).sum ≤ 8 * zs.length := fun zs => by
    induction zs with
    | nil => intro _; exact Nat.le_refl _
    | cons z r ih =>
      intro q
      have e1 := ih fun p hp => q p (List.mem_cons_of_mem _ hp)
      have e2 := q z List.mem_cons_self
      rw [List.map_cons, List.sum_cons, List.length_cons]
      omega
  have h3 := h2 ys fun z hz => by
    obtain ⟨q, hq, e⟩ := List.mem_map.mp (h.mem_iff.mp hz)
    rw [← e]; exact ok.nm q hq
  have h4 : (" " : Str).length = 1 := by decide +kernel
  rw [h4]
  omega
theorem joinL_len (a : List Nat) : ∀ parts : List (List Nat), (TL.joinL a parts).length ≤ (parts.map List.length).sum + parts.length * a.length
  | [] => Nat.zero_le _
  | [p] => by show p.length ≤ _; simp only [List.map_cons, List.map_nil, List.sum_cons, List.sum_nil, List.length_cons, List.length_nil]; omega
  | p :: q :: r => by
    have ih := joinL_len a (q :: r)
    show (p ++ (a ++ TL.joinL a (q :: r))).length ≤ _
    rw [List.length_append, List.length_append, List.map_cons, List.sum_cons, List.length_cons, Nat.succ_mul]
    omega
theorem S_sgn (z : Str) : SX.S (sgn z) = z := SX.S_tl z
theorem sgn_len (z : Str) : (sgn z).length = z.length := by show z.cps.toList.length = z.cps.size; simp
theorem map_S_sgn : ∀ ys : List Str, ys.map (SX.S ∘ sgn) = ys
  | [] => rfl
  | y :: r => by rw [List.map_cons, map_S_sgn r]; show SX.S (sgn y) :: r = _; rw [S_sgn]
theorem join_eq (a : Str) (ys : List Str) : Txt.join a ys = SX.S (TL.joinL (sgn a) (ys.map sgn)) := by
  have h := SX.join_S (sgn a) (ys.map sgn)
  rw [S_sgn, List.map_map, map_S_sgn] at h
  exact h
theorem join_size (ys : List Str) (h : (ys.map (·.length)).sum + ys.length * (" " : Str).length ≤ 16777216) : (Txt.join (" " : Str) ys).length ≤ sizeLine := by
  rw [join_eq, SX.S_len]
  have e := joinL_len (sgn " ") (ys.map sgn)
  rw [List.map_map, show ys.map (List.length ∘ sgn) = ys.map (·.length) from List.map_congr_left fun z _ => sgn_len z, List.length_map, sgn_len] at e
  rw [sizeLine_eq]
  omega
theorem fold_take {α β : Type} (g : β → α → β) (p : β) {rows : List α} {j : Nat} {ws : α} (h : rows[j]? = some ws) : (rows.take (j + 1)).foldl g p = g ((rows.take j).foldl g p) ws := by
  rw [List.take_succ, h, List.foldl_append]
  rfl
theorem fm_row (row : Str) : (Txt.split row (" " : Str)).filterMap (fun w : Str => if (!decide (w = "")) = true then some (Dv.str w) else none) = (RowW row).map Dv.str := by
  unfold RowW
  induction Txt.split row (" " : Str) with
  | nil => rfl
  | cons w r ih =>
    rw [List.filterMap_cons, List.filter_cons]
    by_cases h : w = ""
    · rw [if_neg (by simp [h]), if_neg (by simp [h])]; exact ih
    · rw [if_pos (by simp [h]), if_pos (by simp [h]), List.map_cons, ← ih]
theorem row_facts {z row : Str} (hz : z.length ≤ 1000000) (ha : ∀ c ∈ sgn z, c < 128) (h : row ∈ Txt.split z ("\n" : Str)) : row.length ≤ 1000000 ∧ (Txt.split row (" " : Str)).length ≤ 1000001 ∧ (∀ w ∈ Txt.split row (" " : Str), w.length ≤ 1000000 ∧ PyData.strOk w = true) := by
  rw [lineS, split_sp z (by decide)] at h
  obtain ⟨l, hl, rfl⟩ := List.mem_map.mp h
  have h1 : l.length ≤ 1000000 := Nat.le_trans (sp_part_len hl) (by rw [sgn_len]; exact hz)
  rw [blankS, split_sp _ (by decide)]
  have hs : sgn (SX.S l) = l := rfl
  rw [hs, SX.S_len]
  refine ⟨h1, by rw [List.length_map]; exact Nat.le_trans (sp_len 32 l) (by omega), fun w hw => ?_⟩
  obtain ⟨v, hv, rfl⟩ := List.mem_map.mp hw
  rw [SX.S_len]
  exact ⟨Nat.le_trans (sp_part_len hv) h1, strOk_of fun c hc => ha c (sp_mem hl c (sp_mem hv c hc))⟩
structure PlayI (A : Ad) (μ0 : M) (z : Str) (fa tu : Addr) (j : Nat) (μ : M) (f : TF) (st : Tn) (acc : List Str) : Prop where
  fold : ((rowsW z).take j).foldl stepA (tn0, []) = (st, acc)
  tu : f.tu = tu
  at_ : TurnAt A μ f st
  lst : μ fa = some (.lst (acc.map Dv.str))
  out : ¬ f.has fa
  ext : ExtM μ0 μ
  new : ∀ b, f.has b → μ0 b = none
  fan : μ0 fa = none
  vis : st.g.all.length ≤ ((rowsW z).take j).countP isV
  len : acc.length ≤ j
theorem PlayI.step {A : Ad} {μ0 μ μ2 : M} {z : Str} {fa tu : Addr} {j : Nat} {f f2 : TF} {st s' : Tn} {acc : List Str} {ws : List Str} {ra : RA} (P : PlayI A μ0 z fa tu j μ f st acc) (hr : (rowsW z)[j]? = some ws) (hne : ws ≠ []) (e : rowA st ws = (ra, s')) (nx : Nxt A μ f μ2 f2 s') :
    μ2 fa = some (.lst (acc.map Dv.str)) ∧ PlayI A μ0 z fa tu (j + 1) (updM μ2 fa (.lst (acc.map Dv.str ++ [.str (ansT ra)]))) f2 s' (acc ++ [ansT ra]) := by
  have h1 := nx.keep fa _ P.lst P.out
  have nfa : ¬ f2.has fa := fun y => (nx.fresh fa y).elim P.out fun q => by rw [P.lst] at q; cases q
  refine ⟨h1, ?_, nx.tu.trans P.tu, nx.at_.frame fun b hb o ho => (updM_ne fun q => nfa (by rw [← q]; exact hb)).trans ho, ?_, nfa, fun b o ho => ?_, fun b hb => (nx.fresh b hb).elim (P.new b) fun q => ?_, P.fan, ?_, ?_⟩
  · rw [fold_take _ _ hr, P.fold, stepA, if_neg hne, e]
  · rw [updM_same, List.map_append]; rfl
  · refine (updM_ne fun q => ?_).trans (nx.keep b o (P.ext b o ho) fun y => ?_)
    · rw [q, P.fan] at ho; cases ho
    · rw [P.new b y] at ho; cases ho
  · cases y : μ0 b with
    | none => rfl
    | some o => rw [P.ext b o y] at q; cases q
  · have h2 := rowA_len st ws
    rw [e] at h2
    have h3 := P.vis
    rw [List.take_succ, hr, List.countP_append]
    show _ ≤ _ + List.countP isV [ws]
    rw [List.countP_cons, List.countP_nil]
    have h2' : s'.g.all.length ≤ st.g.all.length + (if isV ws = true then 1 else 0) := h2
    omega
  · rw [List.length_append]; have := P.len; simp only [List.length_cons, List.length_nil]; omega
theorem PlayI.skip {A : Ad} {μ0 μ : M} {z : Str} {fa tu : Addr} {j : Nat} {f : TF} {st : Tn} {acc : List Str} (P : PlayI A μ0 z fa tu j μ f st acc) (hr : (rowsW z)[j]? = some []) : PlayI A μ0 z fa tu (j + 1) μ f st acc :=
  { P with
    fold := by rw [fold_take _ _ hr, P.fold, stepA, if_pos rfl]
    vis := Nat.le_trans P.vis (by rw [List.take_succ, List.countP_append]; exact Nat.le_add_right _ _)
    len := Nat.le_succ_of_le P.len }
theorem PlayI.small {A : Ad} {μ0 μ : M} {z : Str} {fa tu : Addr} {j : Nat} {f : TF} {st : Tn} {acc : List Str} (P : PlayI A μ0 z fa tu j μ f st acc) (h : (rowsW z).countP isV ≤ 63) : st.g.all.length ≤ 63 := by
  have h1 := P.vis
  have h2 : ((rowsW z).take j).countP isV ≤ (rowsW z).countP isV := by
    conv => rhs; rw [← List.take_append_drop j (rowsW z)]
    rw [List.countP_append]
    exact Nat.le_add_right _ _
  omega
theorem PlayI.done {A : Ad} {μ0 μ : M} {z : Str} {fa tu : Addr} {j : Nat} {f : TF} {st : Tn} {acc : List Str} (P : PlayI A μ0 z fa tu j μ f st acc) (h : j = (rowsW z).length) : acc = playT z ∧ ExtM μ0 (delM μ fa) := by
  refine ⟨?_, fun b o ho => ?_⟩
  · have h1 := P.fold
    rw [h, List.take_length] at h1
    unfold playT playW
    rw [h1]
  · have : b ≠ fa := fun q => by rw [q, P.fan] at ho; cases ho
    exact (delM_ne this).trans (P.ext b o ho)
theorem PlayI.start {A : Ad} {μ0 μ1 : M} {z : Str} {fa : Addr} {f : TF} (T : TurnAt A μ1 f tn0) (hfa : μ1 fa = none) (ex : ExtM μ0 μ1) (fr : ∀ b, f.has b → μ0 b = none) : PlayI A μ0 z fa f.tu 0 (updM μ1 fa (.lst [])) f tn0 [] where
  fold := rfl
  tu := rfl
  at_ := T.ext (ext_newS hfa)
  lst := updM_same
  out := T.new hfa
  ext := fun b o ho => (ext_newS hfa) b o (ex b o ho)
  new := fr
  fan := ext_none ex hfa
  vis := Nat.zero_le _
  len := Nat.zero_le _
theorem txt_small (r : Rj) : ("refused: " : Str).length + r.txt.length ≤ 16777216 := by
  rcases r with _ | _ | (_ | _ | _ | _) <;> decide +kernel
theorem roomS {X : L2.Cx} {k j : Nat} {z : Addr} {pq : List (Addr × Obj)} (r : L2.Room k X.A) (h : j ≤ k := by decide) : L2H.RoomH j (suiteK X z pq).A := L2H.RoomH.mono ⟨r.dp, r.un⟩ h

/-! ### rows, one by one -/
theorem sgn_S (l : List Nat) : sgn (SX.S l) = l := rfl
theorem sgn_app (a b : Str) : sgn (a ++ b) = sgn a ++ sgn b := by
  show (a.cps ++ b.cps).toList = _
  rw [Array.toList_append]
  rfl
theorem sgn_inj {a b : Str} (h : sgn a = sgn b) : a = b := by rw [← S_sgn a, ← S_sgn b, h]
theorem sgn_join (a : Str) (ys : List Str) : sgn (Txt.join a ys) = TL.joinL (sgn a) (ys.map sgn) := by rw [join_eq, sgn_S]
theorem sgn_num (n : Nat) : sgn (numS (n : Int)) = TL.numL n := by rw [numS_nat, sgn_S]
/-- a word: signs, no blank among them -/
def Wd (w : Str) : Prop := sgn w ≠ [] ∧ 32 ∉ sgn w
theorem RowW_wd {z : Str} {ws : List (List Nat)} (h : wd (sgn z) = ws) : RowW z = ws.map SX.S := by rw [RowW_eq, h]
theorem RowW_2 {z : Str} {a b : Str} (h : sgn z = sgn a ++ 32 :: sgn b) (ha : Wd a) (hb : Wd b) : RowW z = [a, b] := by
  rw [RowW_wd (ws := [sgn a, sgn b]) (by rw [h, wd_app, wd_one ha.1 ha.2, wd_one hb.1 hb.2]; rfl)]
  simp only [List.map_cons, List.map_nil, S_sgn]
theorem RowW_4 {z : Str} {a b c d : Str} (h : sgn z = sgn a ++ 32 :: (sgn b ++ 32 :: (sgn c ++ 32 :: sgn d))) (ha : Wd a) (hb : Wd b) (hc : Wd c) (hd : Wd d) : RowW z = [a, b, c, d] := by
  rw [RowW_wd (ws := [sgn a, sgn b, sgn c, sgn d]) (by rw [h, wd_app, wd_app, wd_app, wd_one ha.1 ha.2, wd_one hb.1 hb.2, wd_one hc.1 hc.2, wd_one hd.1 hd.2]; rfl)]
  simp only [List.map_cons, List.map_nil, S_sgn]
theorem Wd.num (n : Nat) : Wd (numS (n : Int)) := ⟨by rw [sgn_num]; exact TL.numL_ne n, by rw [sgn_num]; exact TL.numL_free (by omega)⟩
theorem num_ok {n : Nat} (h : n < 10000000000000000) : numOk (numS (n : Int)) = true ∧ numV (numS (n : Int)) = (n : Int) := by
  rw [numS_nat]
  refine ⟨(numOk_iff _).mpr ⟨⟨?_, TL.numL_len (by decide) (by omega)⟩, fun c hc => ?_⟩, ?_⟩
  · have := TL.numL_ne n
    exact List.length_pos_iff.mpr this
  · exact TL.numL_digits n c hc
  · unfold numV
    rw [show (SX.S (TL.numL n)).cps.toList = TL.numL n from rfl, TL.numL_val]
inductive Ran : Tn → List Str → List Str → Tn → Prop where
  | nil (s : Tn) : Ran s [] [] s
  | cons {s s' s2 : Tn} {r : Str} {ra : RA} {rows as : List Str} (h : rowA s (RowW r) = (ra, s')) (hne : RowW r ≠ []) (t : Ran s' rows as s2) : Ran s (r :: rows) (ansT ra :: as) s2
theorem Ran.one {s s' : Tn} {r z : Str} {ra : RA} (h : rowA s (RowW r) = (ra, s')) (hne : RowW r ≠ []) (e : z = ansT ra) : Ran s [r] [z] s' := by subst e; exact .cons h hne (.nil _)
theorem Ran.append {s s1 s2 : Tn} {A a B b : List Str} (h1 : Ran s A a s1) (h2 : Ran s1 B b s2) : Ran s (A ++ B) (a ++ b) s2 := by
  induction h1 with
  | nil => exact h2
  | cons h hne _ ih => exact .cons h hne (ih h2)
theorem Ran.len {s s2 : Tn} {A a : List Str} (h : Ran s A a s2) : a.length = A.length := by
  induction h with
  | nil => rfl
  | cons _ _ _ ih => rw [List.length_cons, List.length_cons, ih]
theorem Ran.ne {s s2 : Tn} {A a : List Str} (h : Ran s A a s2) : ∀ r ∈ A, RowW r ≠ [] := by
  induction h with
  | nil => intro r hr; cases hr
  | cons _ hne _ ih =>
    intro r hr
    rcases List.mem_cons.mp hr with rfl | hr
    · exact hne
    · exact ih r hr
theorem Ran.split {s2 : Tn} : ∀ {A B as : List Str} {s : Tn}, Ran s (A ++ B) as s2 → ∃ a b sm, as = a ++ b ∧ a.length = A.length ∧ Ran s A a sm ∧ Ran sm B b s2
  | [], B, as, s, h => ⟨[], as, s, rfl, rfl, .nil _, h⟩
  | r :: A, B, as, s, h => by
    cases h with
    | cons h hne t =>
      obtain ⟨a, b, sm, e1, e2, e3, e4⟩ := Ran.split t
      exact ⟨_ :: a, b, sm, by rw [e1]; rfl, by rw [List.length_cons, List.length_cons, e2], .cons h hne e3, e4⟩
theorem Ran.fold {s s2 : Tn} {A a : List Str} (h : Ran s A a s2) : ∀ acc, (A.map RowW).foldl stepA (s, acc) = (s2, acc ++ a) := by
  induction h with
  | nil => intro acc; rw [List.append_nil]; rfl
  | cons h hne _ ih =>
    intro acc
    rw [List.map_cons, List.foldl_cons, stepA, if_neg hne, h]
    show List.foldl stepA (_, acc ++ [ansT _]) _ = _
    rw [ih, List.append_assoc]
    rfl
theorem add_gate (s : Tn) (w : Str) (b : Bd) : (s.add w b).gate = s.gate := by
  unfold Tn.add
  split <;> rfl
/-- a gate that is made stays -/
theorem rowA_gate (s : Tn) (ws : List Str) (h : s.gate.isSome = true) : (rowA s ws).2.gate.isSome = true := by
  have hb := (begin_g s).2.2.2
  unfold rowA
  split
  · unfold boundA
    repeat' split
    all_goals first | exact h | (show (Tn.add _ _ _).gate.isSome = true; rw [add_gate]; exact h)
  split
  · unfold visitA gateA
    repeat' split
    all_goals first | exact h | exact hb | rfl
  · unfold restA
    repeat' split
    all_goals first | exact h | exact hb
theorem Ran.gate {s s2 : Tn} {A a : List Str} (h : Ran s A a s2) : s.gate.isSome = true → s2.gate.isSome = true := by
  induction h with
  | nil => exact id
  | @cons s s' s2 r ra rows as h _ _ ih =>
    intro hg
    have := rowA_gate s (RowW r) hg
    rw [h] at this
    exact ih this
theorem Ran.nogate {s s2 : Tn} {A a : List Str} (h : Ran s A a s2) (hn : s2.gate = none) : s.gate = none := by
  cases e : s.gate with
  | none => rfl
  | some g =>
    have := h.gate (by rw [e]; rfl)
    rw [hn] at this
    cases this
/-- a row of signs that are no ends of rows -/
def TxOk (z : Str) : Prop := (∀ c ∈ sgn z, c < 128 ∧ c ≠ 10) ∧ z.length ≤ 1000
theorem TxOk.app {a b : Str} (h1 : ∀ c ∈ sgn a, c < 128 ∧ c ≠ 10) (h2 : ∀ c ∈ sgn b, c < 128 ∧ c ≠ 10) : ∀ c ∈ sgn (a ++ b), c < 128 ∧ c ≠ 10 := fun c hc => by
  rw [sgn_app] at hc
  exact (List.mem_append.mp hc).elim (h1 c) (h2 c)
theorem num_sgn (n : Nat) : ∀ c ∈ sgn (numS (n : Int)), c < 128 ∧ c ≠ 10 := fun c hc => by
  rw [sgn_num] at hc
  have := TL.numL_digits n c hc
  omega
theorem sp_join {c : Nat} : ∀ {ls : List (List Nat)}, ls ≠ [] → (∀ l ∈ ls, c ∉ l) → sp c (TL.joinL [c] ls) = ls
  | [], h, _ => absurd rfl h
  | [l], _, h => sp_free c (h l List.mem_cons_self)
  | l :: k :: r, _, h => by
    show sp c (l ++ (c :: TL.joinL [c] (k :: r))) = _
    rw [sp_app, sp_free c (h l List.mem_cons_self), sp_join (List.cons_ne_nil _ _) fun x hx => h x (List.mem_cons_of_mem _ hx)]
    rfl
theorem joinL_mem {a : List Nat} {x : Nat} : ∀ {ls : List (List Nat)}, x ∈ TL.joinL a ls → x ∈ a ∨ ∃ l ∈ ls, x ∈ l
  | [], h => by cases h
  | [l], h => .inr ⟨l, List.mem_cons_self, h⟩
  | l :: k :: r, h => by
    have h' : x ∈ l ++ (a ++ TL.joinL a (k :: r)) := h
    rcases List.mem_append.mp h' with h' | h'
    · exact .inr ⟨l, List.mem_cons_self, h'⟩
    rcases List.mem_append.mp h' with h' | h'
    · exact .inl h'
    · rcases joinL_mem h' with h' | ⟨m, hm, h'⟩
      · exact .inl h'
      · exact .inr ⟨m, List.mem_cons_of_mem _ hm, h'⟩
theorem lineSgn : sgn ("\n" : Str) = [10] := by decide +kernel
theorem sum_le {n : Nat} : ∀ {xs : List Nat}, (∀ x ∈ xs, x ≤ n) → xs.sum ≤ n * xs.length
  | [], _ => Nat.le_refl _
  | x :: r, h => by
    have h1 := sum_le (n := n) (xs := r) fun y hy => h y (List.mem_cons_of_mem _ hy)
    have h2 := h x List.mem_cons_self
    rw [List.sum_cons, List.length_cons, Nat.mul_succ]
    omega
/-- rows joined and played -/
theorem play_join {rows due : List Str} {s2 : Tn} (R : Ran tn0 rows due s2) (hne : rows ≠ []) (tx : ∀ z ∈ rows, TxOk z) (hl : rows.length ≤ 200) :
    (rows.map (·.length)).sum + rows.length * ("\n" : Str).length ≤ 16777216 ∧ (Txt.join "\n" rows).length ≤ 1000000 ∧ (∀ c ∈ sgn (Txt.join "\n" rows), c < 128) ∧ rowsW (Txt.join "\n" rows) = rows.map RowW ∧ playT (Txt.join "\n" rows) = due := by
  have h1 : ("\n" : Str).length = 1 := by decide +kernel
  have hs : (rows.map (·.length)).sum ≤ 1000 * rows.length := by
    have := sum_le (n := 1000) (xs := rows.map (·.length)) fun x hx => by
      obtain ⟨z, hz, rfl⟩ := List.mem_map.mp hx
      exact (tx z hz).2
    rw [List.length_map] at this
    exact this
  have hw : rowsW (Txt.join "\n" rows) = rows.map RowW := by
    unfold rowsW
    rw [show Txt.split (Txt.join "\n" rows) "\n" = Txt.split (Txt.join "\n" rows) (SX.S [10]) by rw [← lineS], split_sp _ (by decide), sgn_join, lineSgn, sp_join (by simpa using hne) fun l hl hc => by
      obtain ⟨z, hz, rfl⟩ := List.mem_map.mp hl
      exact ((tx z hz).1 10 hc).2 rfl]
    rw [List.map_map, List.map_map]
    refine List.map_congr_left fun z _ => ?_
    show RowW (SX.S (sgn z)) = RowW z
    rw [S_sgn]
  refine ⟨by rw [h1]; omega, ?_, fun c hc => ?_, hw, ?_⟩
  · rw [← sgn_len, sgn_join]
    have e := joinL_len (sgn "\n") (rows.map sgn)
    rw [List.map_map, show rows.map (List.length ∘ sgn) = rows.map (·.length) from List.map_congr_left fun z _ => sgn_len z, List.length_map, sgn_len, h1] at e
    omega
  · rw [sgn_join, lineSgn] at hc
    rcases joinL_mem hc with h | ⟨l, hl, h⟩
    · cases List.mem_singleton.mp h; decide
    · obtain ⟨z, hz, rfl⟩ := List.mem_map.mp hl
      exact ((tx z hz).1 c h).1
  · unfold playT playW
    rw [hw, R.fold]
    rfl
theorem strOk_num (n : Nat) : PyData.strOk (numS (n : Int)) = true := strOk_of fun c hc => (num_sgn n c hc).1
/-- rows that are refused whatever stands -/
def badB (ws : List Str) : Bool :=
  (decide (at_ ws 0 ∈ (["own", "common"] : List Str)) && (decide (ws.length ≠ 4) || !decide (at_ ws 1 ∈ (["jar", "window"] : List Str)) || !numOk (at_ ws 2) || !numOk (at_ ws 3)))
  || (decide (at_ ws 0 ∈ (["ask", "visit"] : List Str)) && (decide (ws.length ≠ 4) || !numOk (at_ ws 2) || !numOk (at_ ws 3)))
  || (!decide (at_ ws 0 ∈ (["own", "common"] : List Str)) && !decide (at_ ws 0 ∈ (["ask", "visit"] : List Str)) && (!decide (at_ ws 0 ∈ (["names", "kept"] : List Str)) || decide (ws.length ≠ 1)))
theorem oc_av {w : Str} (h : w ∈ (["ask", "visit"] : List Str)) : ¬ w ∈ (["own", "common"] : List Str) := by
  simp only [List.mem_cons, List.not_mem_nil, or_false] at h
  rcases h with rfl | rfl <;> decide +kernel
theorem badB_ok {ws : List Str} (h : badB ws = true) (s : Tn) : rowA s ws = (.inl .bad, s) := by
  unfold badB at h
  rw [Bool.or_eq_true, Bool.or_eq_true] at h
  rcases h with (h | h) | h
  · rw [Bool.and_eq_true, decide_eq_true_iff] at h
    unfold rowA
    rw [if_pos h.1]
    unfold boundA
    by_cases h4 : ws.length ≠ 4
    · rw [if_pos h4]
    · rw [if_neg h4]
      by_cases hg : (s.gate.isSome || !decide (at_ ws 1 ∈ (["jar", "window"] : List Str))) = true
      · rw [if_pos hg]
      · rw [if_neg hg]
        by_cases h2 : numOk (at_ ws 2) = false
        · rw [if_pos h2]
        · rw [if_neg h2]
          by_cases h3 : numOk (at_ ws 3) = false
          · rw [if_pos h3]
          · exfalso
            have q := h.2
            rw [Bool.not_eq_true, Bool.or_eq_false_iff] at hg
            rw [decide_eq_false h4, hg.2, Bool.not_eq_false _ |>.mp h2, Bool.not_eq_false _ |>.mp h3] at q
            exact absurd q (by decide)
  · rw [Bool.and_eq_true, decide_eq_true_iff] at h
    unfold rowA
    rw [if_neg (oc_av h.1), if_pos h.1]
    unfold visitA
    by_cases h4 : ws.length ≠ 4
    · rw [if_pos h4]
    · rw [if_neg h4]
      by_cases h2 : numOk (at_ ws 2) = false
      · rw [if_pos h2]
      · rw [if_neg h2]
        by_cases h3 : numOk (at_ ws 3) = false
        · rw [if_pos h3]
        · exfalso
          have q := h.2
          rw [decide_eq_false h4, Bool.not_eq_false _ |>.mp h2, Bool.not_eq_false _ |>.mp h3] at q
          exact absurd q (by decide)
  · rw [Bool.and_eq_true, Bool.and_eq_true, Bool.not_eq_true', Bool.not_eq_true', decide_eq_false_iff_not, decide_eq_false_iff_not] at h
    unfold rowA
    rw [if_neg h.1.1, if_neg h.1.2]
    unfold restA
    by_cases h1 : (!decide (at_ ws 0 ∈ (["names", "kept"] : List Str))) = true
    · rw [if_pos h1]
    · rw [if_neg h1]
      have q := h.2
      rw [Bool.not_eq_true _ |>.mp h1, Bool.false_or, decide_eq_true_iff] at q
      rw [if_pos q]

/-! ### k12 -/
abbrev S_law (A : Ad) : DSp := DL.spLaw
theorem len_app (a b : Str) : (a ++ b).length = a.length + b.length := by rw [← sgn_len, sgn_app, List.length_append, sgn_len, sgn_len]
theorem sl2 {a b : Str} {n m : Nat} (ha : a.length ≤ n) (hb : b.length ≤ m) (h : n + m ≤ 1000000) : a.length + b.length ≤ sizeLine := by rw [sizeLine_eq]; omega
theorem len_le {a b : Str} {n m : Nat} (ha : a.length ≤ n) (hb : b.length ≤ m) : (a ++ b).length ≤ n + m := by rw [len_app]; omega
theorem num_le (n : Nat) (h : n < 1000000000000000000) : (numS (n : Int)).length ≤ 20 := by
  have := numS_len (i := (n : Int)) (by omega) (by omega)
  omega
/-- what is asked of a gate -/
inductive Qy where
  | names | kept | call (v : Bool) (nm : Str) (t c : Int)
def wayS (v : Bool) : Str := if v then "visit" else "ask"
def nm8 : List Str := ["a", "bb", "abcdefgh", "z", "A", "abcdefghi", "a1", "-"]
def Qy.dv : Qy → Dv
  | .names => .lst [.str "names"]
  | .kept => .lst [.str "kept"]
  | .call v nm t c => .lst [.str (wayS v), .str nm, .int t, .int c]
def Qy.ok : Qy → Prop
  | .names => True
  | .kept => True
  | .call _ nm t c => nm ∈ nm8 ∧ (0 ≤ t ∧ t ≤ 1000000000001) ∧ 0 ≤ c ∧ c ≤ 1000000001
def Qy.ws : Qy → List Str
  | .names => ["names"]
  | .kept => ["kept"]
  | .call v nm t c => [wayS v, nm, numS t, numS c]
noncomputable def ansQ (s : Tn) : Qy → RA × Tn
  | .names => (.inr (namesT (sortN (s.g.people.map (·.1)))), s)
  | .kept => (.inr (numS (keptOf s.own s.com s.g.people s.g.all)), s)
  | .call v nm t c => gateA s v nm t c
def wordsOf (l : Str) : List (List Str) := (rws (sgn l)).map fun ws => ws.map SX.S
def Spell : Qy → List Str → Prop
  | .names, ws => ws = (["names"] : List Str)
  | .kept, ws => ws = (["kept"] : List Str)
  | .call v nm t c, ws => ∃ w, ws = [wayS v, nm, numS t, w] ∧ numOk w = true ∧ numV w = c
structure LineOk (q : Qy) (l : Str) : Prop where
  sg : ∀ c ∈ sgn l, c < 128
  len : l.length ≤ 1000
  wd : ∃ ws, wordsOf l = [ws] ∧ Spell q ws
section
def S__law_made (A : Ad) : DSp := fun ds μ kd _ => ∃ b : Bd, ds = [b.tv] ∧ b.ok ∧ kd (b.pv A) μ
def S__law_kind (A : Ad) : DSp := fun ds μ kd _ => ∃ r : Rf, ds = [.exc (r.cls A) []] ∧ kd (.str (ansT (.inl (.gate r)))) μ
def S__law_text (A : Ad) : DSp := fun ds μ kd _ => ∃ a : Ans, ds = [a.dv] ∧ AnsOk a ∧ kd (.str a.txt) μ
def S__law_answer (A : Ad) : DSp := fun ds μ kd _ => ∃ (g : Addr) (s : Tn) (q : Qy) (pd : Addr) (cas : List Addr) (pas : List (Str × List Addr)), ds = [.obj g, q.dv] ∧ GateAt A μ g s.own s.com s.g.people s.g.all s.g.latest pd cas pas ∧ (TnOk s ∧ PplOk s.g.people ∧ s.g.all.length ≤ 62) ∧ q.ok ∧
  ∀ μ' pas', GateAt A μ' g (ansQ s q).2.own (ansQ s q).2.com (ansQ s q).2.g.people (ansQ s q).2.g.all (ansQ s q).2.g.latest pd cas pas' → (∀ b o, μ b = some o → ¬ Foot g pd cas pas b → μ' b = some o) → kd (.str (ansT (ansQ s q).1)) μ'
def S__law_spread (A : Ad) : DSp := fun ds μ kd _ => ∃ (c : Int) (q : Qy), ds = [.int c, .lst (q.ws.map Dv.str)] ∧ 0 ≤ c ∧ q.ok ∧ ∀ l, LineOk q l → kd (.str l) μ
def S__law_row (A : Ad) : DSp := fun ds μ kd _ => ∃ c m mom z : Int, ds = [.int c, .int m, .int mom, .int z] ∧ (0 ≤ c ∧ 0 ≤ m) ∧ (0 ≤ mom ∧ mom ≤ 1000000000000) ∧ (1 ≤ z ∧ z ≤ 40000000) ∧ ∀ q : Qy, q.ok → kd q.dv μ
end
theorem nm8_ok {nm : Str} (h : nm ∈ nm8) : Wd nm ∧ (∀ c ∈ sgn nm, c < 128 ∧ c ≠ 10) ∧ nm.length ≤ 10 := by
  have h1 : ∀ nm ∈ nm8, (sgn nm ≠ [] ∧ 32 ∉ sgn nm) ∧ (∀ c ∈ sgn nm, c < 128 ∧ c ≠ 10) ∧ nm.length ≤ 10 := by decide +kernel
  exact h1 nm h
theorem way_ok (v : Bool) : Wd (wayS v) ∧ (∀ c ∈ sgn (wayS v), c < 128 ∧ c ≠ 10) ∧ (wayS v).length ≤ 10 := by
  have h1 : ∀ v, (sgn (wayS v) ≠ [] ∧ 32 ∉ sgn (wayS v)) ∧ (∀ c ∈ sgn (wayS v), c < 128 ∧ c ≠ 10) ∧ (wayS v).length ≤ 10 := by decide +kernel
  exact h1 v
theorem num_w {i : Int} (h0 : 0 ≤ i) (h1 : i < 10000000000000000) : Wd (numS i) ∧ (∀ c ∈ sgn (numS i), c < 128 ∧ c ≠ 10) ∧ (numS i).length ≤ 20 := by
  obtain ⟨n, rfl⟩ := Int.eq_ofNat_of_zero_le h0
  exact ⟨Wd.num n, num_sgn n, num_le n (by omega)⟩
theorem num_okI {i : Int} (h0 : 0 ≤ i) (h1 : i < 10000000000000000) : numOk (numS i) = true ∧ numV (numS i) = i := by
  obtain ⟨n, rfl⟩ := Int.eq_ofNat_of_zero_le h0
  exact num_ok (by omega)
/-! the words of a line -/
theorem repS_sgn (c n : Nat) : sgn (repS c n) = List.replicate n c := rfl
theorem sg_b : (" " : Str) = ⟨#[32]⟩ := by decide +kernel
theorem sg_0 : ("0" : Str) = ⟨#[48]⟩ := by decide +kernel
theorem join_no {x : Nat} {m : Nat} {ws : List Str} (h : ∀ w ∈ ws, x ∉ sgn w) (hx : x ≠ 32) : x ∉ TL.joinL (List.replicate m 32) (ws.map sgn) := fun z => by
  rcases joinL_mem z with z | ⟨l, hl, z⟩
  · exact hx (List.eq_of_mem_replicate z)
  · obtain ⟨w, hw, rfl⟩ := List.mem_map.mp hl
    exact h w hw z
/-- blanks, words, blanks -/
theorem body_wd {a m b : Nat} {ws : List Str} (h : ∀ w ∈ ws, Wd w ∧ ∀ c ∈ sgn w, c < 128 ∧ c ≠ 10) (hne : ws ≠ []) :
    rws ((List.replicate a 32 ++ TL.joinL (List.replicate (m + 1) 32) (ws.map sgn)) ++ List.replicate b 32) = [ws.map sgn] := by
  have hw : wd ((List.replicate a 32 ++ TL.joinL (List.replicate (m + 1) 32) (ws.map sgn)) ++ List.replicate b 32) = ws.map sgn := by
    rw [wd_end, wd_rep, wd_join m fun w hw => by
      obtain ⟨z, hz, rfl⟩ := List.mem_map.mp hw
      exact (h z hz).1]
  have hr := rws_one (l := (List.replicate a 32 ++ TL.joinL (List.replicate (m + 1) 32) (ws.map sgn)) ++ List.replicate b 32) (fun z => by
    rcases List.mem_append.mp z with z | z
    · rcases List.mem_append.mp z with z | z
      · have := List.eq_of_mem_replicate z; omega
      · exact join_no (x := 10) (fun w hw y => ((h w hw).2 10 y).2 rfl) (by decide) z
    · have := List.eq_of_mem_replicate z; omega) (by rw [hw]; simpa using hne)
  rw [hr, hw]
theorem words_S {l : Str} {ws : List Str} (h : rws (sgn l) = [ws.map sgn]) : wordsOf l = [ws] := by
  unfold wordsOf
  rw [h, List.map_cons, List.map_nil, List.map_map, map_S_sgn]
theorem body_sgn {a m b : Nat} {ws : List Str} (h : ∀ w ∈ ws, Wd w ∧ ∀ c ∈ sgn w, c < 128 ∧ c ≠ 10) : ∀ c ∈ (List.replicate a 32 ++ TL.joinL (List.replicate (m + 1) 32) (ws.map sgn)) ++ List.replicate b 32, c < 128 := fun c z => by
  rcases List.mem_append.mp z with z | z
  · rcases List.mem_append.mp z with z | z
    · have := List.eq_of_mem_replicate z; omega
    · rcases joinL_mem z with z | ⟨l, hl, z⟩
      · have := List.eq_of_mem_replicate z; omega
      · obtain ⟨w, hw, rfl⟩ := List.mem_map.mp hl
        exact ((h w hw).2 c z).1
  · have := List.eq_of_mem_replicate z; omega
theorem joinS_len {ws : List Str} {m : Nat} (hl : ∀ w ∈ ws, w.length ≤ 30) (h4 : ws.length ≤ 4) (hm : m ≤ 5) : (ws.map (·.length)).sum + ws.length * (repS 32 m).length ≤ 200 ∧ (Txt.join (repS 32 m) ws).length ≤ 200 := by
  have hs : (ws.map (·.length)).sum ≤ 30 * ws.length := by
    have := sum_le (n := 30) (xs := ws.map (·.length)) fun x hx => by
      obtain ⟨w, hw, rfl⟩ := List.mem_map.mp hx
      exact hl w hw
    rw [List.length_map] at this
    exact this
  have h1 : ws.length * (repS 32 m).length ≤ 4 * 5 := by rw [repS_len]; exact Nat.mul_le_mul h4 hm
  refine ⟨by omega, ?_⟩
  rw [← sgn_len, sgn_join]
  have e := joinL_len (sgn (repS 32 m)) (ws.map sgn)
  rw [List.map_map, show ws.map (List.length ∘ sgn) = ws.map (·.length) from List.map_congr_left fun z _ => sgn_len z, List.length_map, sgn_len] at e
  omega
theorem line_mk {q : Qy} {a m b : Nat} {ws : List Str} (h : ∀ w ∈ ws, Wd w ∧ ∀ c ∈ sgn w, c < 128 ∧ c ≠ 10) (hne : ws ≠ []) (hl : ∀ w ∈ ws, w.length ≤ 30) (h4 : ws.length ≤ 4) (ha : a ≤ 5) (hm : m + 1 ≤ 5) (hb : b ≤ 5) (hs : Spell q ws) :
    LineOk q (repS 32 a ++ Txt.join (repS 32 (m + 1)) ws ++ repS 32 b) ∧ ∀ p : Str, p = "" ∨ p = "   " → LineOk q (p ++ "\n" ++ (repS 32 a ++ Txt.join (repS 32 (m + 1)) ws) ++ repS 32 b) := by
  have hj := (joinS_len hl h4 hm).2
  have e : sgn (repS 32 a ++ Txt.join (repS 32 (m + 1)) ws ++ repS 32 b) = (List.replicate a 32 ++ TL.joinL (List.replicate (m + 1) 32) (ws.map sgn)) ++ List.replicate b 32 := by
    rw [sgn_app, sgn_app, sgn_join, repS_sgn, repS_sgn, repS_sgn]
  have hlen : (repS 32 a ++ Txt.join (repS 32 (m + 1)) ws ++ repS 32 b).length ≤ 300 := by rw [len_app, len_app, repS_len, repS_len]; omega
  refine ⟨⟨fun c hc => by rw [e] at hc; exact body_sgn h c hc, by omega, ws, words_S (by rw [e]; exact body_wd h hne), hs⟩, fun p hp => ?_⟩
  have hp2 : (∀ c ∈ sgn p, c < 128) ∧ p.length ≤ 10 ∧ rws (sgn p) = [] := by
    rcases hp with rfl | rfl <;> exact ⟨by decide +kernel, by decide +kernel, by decide +kernel⟩
  have e2 : sgn (p ++ "\n" ++ (repS 32 a ++ Txt.join (repS 32 (m + 1)) ws) ++ repS 32 b) = sgn p ++ 10 :: ((List.replicate a 32 ++ TL.joinL (List.replicate (m + 1) 32) (ws.map sgn)) ++ List.replicate b 32) := by
    rw [sgn_app, sgn_app, sgn_app, sgn_app, lineSgn, sgn_join, repS_sgn, repS_sgn, repS_sgn]
    simp only [List.append_assoc, List.cons_append, List.nil_append]
  refine ⟨fun c hc => ?_, ?_, ws, words_S ?_, hs⟩
  · rw [e2] at hc
    rcases List.mem_append.mp hc with hc | hc
    · exact hp2.1 c hc
    · rcases List.mem_cons.mp hc with rfl | hc
      · decide
      · exact body_sgn h c hc
  · rw [len_app, len_app, len_app, len_app, repS_len, repS_len, show ("\n" : Str).length = 1 by decide +kernel]
    have := hp2.2.1
    omega
  · rw [e2, rws_app, hp2.2.2, body_wd h hne]
    rfl
/-! a number with noughts ahead -/
theorem digits_0 (l : List Nat) : NumText.digitsVal (48 :: l) = NumText.digitsVal l := by
  unfold NumText.digitsVal
  rw [List.foldl_cons]
theorem noughts {n : Nat} {c : Int} (hn : n ≤ 3) (h0 : 0 ≤ c) (h1 : c ≤ 1000000001) : (Wd (repS 48 n ++ numS c) ∧ ∀ x ∈ sgn (repS 48 n ++ numS c), x < 128 ∧ x ≠ 10) ∧ (repS 48 n ++ numS c).length ≤ 30 ∧ numOk (repS 48 n ++ numS c) = true ∧ numV (repS 48 n ++ numS c) = c := by
  obtain ⟨k, rfl⟩ := Int.eq_ofNat_of_zero_le h0
  have e : sgn (repS 48 n ++ numS (k : Int)) = List.replicate n 48 ++ TL.numL k := by rw [sgn_app, repS_sgn, sgn_num]
  have hk : (TL.numL k).length ≤ 10 := TL.numL_len (by decide) (by omega)
  have hd : ∀ x ∈ sgn (repS 48 n ++ numS (k : Int)), 48 ≤ x ∧ x ≤ 57 := fun x hx => by
    rw [e] at hx
    rcases List.mem_append.mp hx with hx | hx
    · have := List.eq_of_mem_replicate hx; omega
    · exact TL.numL_digits k x hx
  have hl : (repS 48 n ++ numS (k : Int)).length ≤ 13 := by
    rw [← sgn_len, e, List.length_append, List.length_replicate]; omega
  have hp : 1 ≤ (sgn (repS 48 n ++ numS (k : Int))).length := by
    rw [e, List.length_append]
    have := List.length_pos_iff.mpr (TL.numL_ne k)
    omega
  refine ⟨⟨⟨fun z => by rw [z] at hp; simp at hp, fun z => by have := hd 32 z; omega⟩, fun x hx => by have := hd x hx; omega⟩, by omega, ?_, ?_⟩
  · rw [← S_sgn (repS 48 n ++ numS (k : Int)), numOk_iff, sgn_len]
    rw [sgn_len] at hp
    exact ⟨⟨hp, by omega⟩, hd⟩
  · unfold numV
    have h2 : NumText.digitsVal (sgn (repS 48 n ++ numS (k : Int))) = k := by
      rw [e]
      have h3 : ∀ j, NumText.digitsVal (List.replicate j 48 ++ TL.numL k) = k := fun j => by
        induction j with
        | zero => exact TL.numL_val k
        | succ j ih => rw [List.replicate_succ, List.cons_append, digits_0, ih]
      exact h3 n
    exact congrArg Int.ofNat h2
/-! rows that spell what is asked -/
theorem way_av (v : Bool) : wayS v ∈ (["ask", "visit"] : List Str) := by cases v <;> decide +kernel
theorem way_is (v : Bool) : (!decide (wayS v = "ask")) = v := by cases v <;> decide +kernel
theorem spell_row {q : Qy} {ws : List Str} (s : Tn) (hq : q.ok) (h : Spell q ws) : rowA s ws = ansQ s.begin q := by
  cases q with
  | names =>
    cases h
    rw [show rowA s ["names"] = restA s ["names"] from (if_neg (by decide +kernel)).trans (if_neg (by decide +kernel))]
    unfold restA
    rw [if_neg (by decide +kernel), if_neg (by decide +kernel), if_neg (by decide +kernel)]
    rfl
  | kept =>
    cases h
    rw [show rowA s ["kept"] = restA s ["kept"] from (if_neg (by decide +kernel)).trans (if_neg (by decide +kernel))]
    unfold restA
    rw [if_neg (by decide +kernel), if_neg (by decide +kernel), if_pos (by decide +kernel)]
    rfl
  | call v nm t c =>
    obtain ⟨w, rfl, h1, h2⟩ := h
    obtain ⟨_, ⟨t0, t1⟩, _, _⟩ := hq
    obtain ⟨n1, n2⟩ := num_okI t0 (by omega)
    rw [show rowA s [wayS v, nm, numS t, w] = visitA s [wayS v, nm, numS t, w] from (if_neg (oc_av (way_av v))).trans (if_pos (way_av v))]
    unfold visitA
    rw [if_neg (by simp), show at_ [wayS v, nm, numS t, w] 0 = wayS v from rfl, show at_ [wayS v, nm, numS t, w] 1 = nm from rfl, show at_ [wayS v, nm, numS t, w] 2 = numS t from rfl, show at_ [wayS v, nm, numS t, w] 3 = w from rfl, if_neg (by rw [n1]; decide), if_neg (by rw [h1]; decide), n2, h2, way_is]
    rfl
theorem spell_vis {q : Qy} {ws : List Str} (h : Spell q ws) : ws ≠ [] := by
  cases q with
  | names => cases h; simp
  | kept => cases h; simp
  | call v nm t c => obtain ⟨w, rfl, _⟩ := h; simp
/-! lines, one by one -/
inductive RanL : Tn → List Str → List Str → Tn → Prop where
  | nil (s : Tn) : RanL s [] [] s
  | snoc {s s1 s2 : Tn} {lines as : List Str} {l : Str} {ws : List Str} {ra : RA} (t : RanL s lines as s1) (hw : wordsOf l = [ws]) (h : rowA s1 ws = (ra, s2)) : RanL s (lines ++ [l]) (as ++ [ansT ra]) s2
theorem words_ne {l : Str} {ws : List Str} (h : ws ∈ wordsOf l) : ws ≠ [] := by
  unfold wordsOf rws at h
  obtain ⟨x, hx, rfl⟩ := List.mem_map.mp h
  have := of_decide_eq_true (List.mem_filter.mp hx).2
  simpa using this
theorem RanL.fold {s s2 : Tn} {lines as : List Str} (h : RanL s lines as s2) : (lines.flatMap wordsOf).foldl stepA (s, []) = (s2, as) := by
  induction h with
  | nil => rfl
  | @snoc s1 s2 lines as l ws ra t hw h ih =>
    have hne : ws ≠ [] := words_ne (l := l) (by rw [hw]; exact List.mem_singleton.mpr rfl)
    rw [List.flatMap_append, List.foldl_append, ih, List.flatMap_singleton, hw]
    show stepA (s1, as) ws = _
    rw [stepA, if_neg hne, h]
theorem RanL.len {s s2 : Tn} {lines as : List Str} (h : RanL s lines as s2) : as.length = lines.length := by
  induction h with
  | nil => rfl
  | snoc _ _ _ ih => rw [List.length_append, List.length_append, ih]; rfl
def cntV (lines : List Str) : Nat := (lines.flatMap wordsOf).countP isV
theorem cntV_snoc {lines : List Str} {l : Str} {ws : List Str} (hw : wordsOf l = [ws]) : cntV (lines ++ [l]) = cntV lines + (if isV ws = true then 1 else 0) := by
  unfold cntV
  rw [List.flatMap_append, List.countP_append, List.flatMap_singleton, hw, List.countP_cons, List.countP_nil, Nat.zero_add]
theorem rws_lines (lines : List Str) : (rws (sgn (Txt.join "\n" lines))).map (fun ws => ws.map SX.S) = lines.flatMap wordsOf := by
  rw [sgn_join, lineSgn, rws_join]
  induction lines with
  | nil => rfl
  | cons l r ih => rw [List.map_cons, List.flatMap_cons, List.map_append, ih, List.flatMap_cons]; rfl
theorem play_lines {lines due : List Str} {s2 : Tn} (R : RanL tn0 lines due s2) (tx : ∀ z ∈ lines, (∀ c ∈ sgn z, c < 128) ∧ z.length ≤ 1000) (hl : lines.length ≤ 200) (hc : cntV lines ≤ 63) :
    (lines.map (·.length)).sum + lines.length * ("\n" : Str).length ≤ 16777216 ∧ (Txt.join "\n" lines).length ≤ 1000000 ∧ (∀ c ∈ sgn (Txt.join "\n" lines), c < 128) ∧ (rowsW (Txt.join "\n" lines)).countP isV ≤ 63 ∧ playT (Txt.join "\n" lines) = due := by
  have h1 : ("\n" : Str).length = 1 := by decide +kernel
  have hs : (lines.map (·.length)).sum ≤ 1000 * lines.length := by
    have := sum_le (n := 1000) (xs := lines.map (·.length)) fun x hx => by
      obtain ⟨z, hz, rfl⟩ := List.mem_map.mp hx
      exact (tx z hz).2
    rw [List.length_map] at this
    exact this
  refine ⟨by rw [h1]; omega, ?_, fun c hc => ?_, ?_, ?_⟩
  · rw [← sgn_len, sgn_join]
    have e := joinL_len (sgn "\n") (lines.map sgn)
    rw [List.map_map, show lines.map (List.length ∘ sgn) = lines.map (·.length) from List.map_congr_left fun z _ => sgn_len z, List.length_map, sgn_len, h1] at e
    omega
  · rw [sgn_join, lineSgn] at hc
    rcases joinL_mem hc with h | ⟨l, hl, h⟩
    · cases List.mem_singleton.mp h; decide
    · obtain ⟨z, hz, rfl⟩ := List.mem_map.mp hl
      exact (tx z hz).1 c h
  · have e : ((rowsW (Txt.join "\n" lines)).filter fun w => decide (w ≠ [])).countP isV = (rowsW (Txt.join "\n" lines)).countP isV := by
      rw [List.countP_filter]
      refine List.countP_congr fun ws _ => ?_
      rw [Bool.and_eq_true]
      refine ⟨fun h => h.1, fun h => ⟨h, decide_eq_true fun z => ?_⟩⟩
      rw [z] at h
      exact absurd h (by decide +kernel)
    rw [← e, rowsW_eq, rws_lines]
    exact hc
  · rw [playT_eq, rws_lines, R.fold]
/-! the law's own gate -/
theorem begin_self {s : Tn} (h : s.gate.isSome = true) : s.begin = s := by
  unfold Tn.begin
  cases e : s.gate with
  | none => rw [e] at h; cases h
  | some g => rfl
theorem gateA_ok {s : Tn} (h : TnOk s) (hp : PplOk s.g.people) (v : Bool) (nm : Str) (t c : Int) : TnOk (gateA s v nm t c).2 ∧ PplOk (gateA s v nm t c).2.g.people := by
  unfold gateA
  split
  · exact ⟨h, hp⟩
  · rename_i hr
    obtain ⟨_, _, _, q1, q2, q3, hnm, hlt, ht0, ht1, hc0, hc1⟩ := refu_none hr
    cases q1; cases q2; cases q3
    have hnl : nm.length ≤ 8 := by have := nameOk_len hnm; rw [Bool.and_eq_true, decide_eq_true_iff, decide_eq_true_iff] at this; omega
    show TnOk (if (v && decide (ask s.own s.com s.g.people s.g.all nm t c = .opn)) = true then _ else _) ∧ PplOk (Tn.g (if (v && decide (ask s.own s.com s.g.people s.g.all nm t c = .opn)) = true then _ else _)).people
    split
    · exact ⟨h.visit ⟨⟨ht0, ht1⟩, hc0, hc1⟩ hnl, PplOk.put hp hnm (by simp)⟩
    · exact ⟨h, hp⟩
theorem gateA_some {s : Tn} (h : s.gate.isSome = true) (v : Bool) (nm : Str) (t c : Int) : (gateA s v nm t c).2.gate.isSome = true := by
  unfold gateA
  split
  · exact h
  · show (if (v && decide (ask s.own s.com s.g.people s.g.all nm t c = .opn)) = true then ({ s with gate := some _ } : Tn) else s).gate.isSome = true
    split
    · rfl
    · exact h
theorem ansQ_ok {s : Tn} (h : TnOk s) (hp : PplOk s.g.people) (hs : s.gate.isSome = true) (q : Qy) : TnOk (ansQ s q).2 ∧ PplOk (ansQ s q).2.g.people ∧ (ansQ s q).2.gate.isSome = true ∧ (ansQ s q).2.g.all.length ≤ s.g.all.length + 1 := by
  cases q with
  | names => exact ⟨h, hp, hs, Nat.le_succ _⟩
  | kept => exact ⟨h, hp, hs, Nat.le_succ _⟩
  | call v nm t c => exact ⟨(gateA_ok h hp v nm t c).1, (gateA_ok h hp v nm t c).2, gateA_some hs v nm t c, (gateA_len s v nm t c).1⟩
theorem sortN_mem {xs : List Str} {y : Str} (h : y ∈ sortN xs) : y ∈ xs := by
  unfold sortN at h
  split at h
  · rename_i e
    exact (Classical.choose_spec e).1.mem_iff.mp h
  · cases h
theorem letters_lo : ∀ c ∈ letters.cps.toList, c < 128 := by decide +kernel
theorem nameOk_lo {z : Str} (h : nameOk z = true) : ∀ c ∈ sgn z, c < 128 := fun c hc => by
  unfold nameOk at h
  rw [Bool.and_eq_true, List.all_eq_true] at h
  exact letters_lo c (of_decide_eq_true (h.2 c hc))
theorem joinB_lo {ys : List Str} (h : ∀ y ∈ ys, ∀ c ∈ sgn y, c < 128) : ∀ c ∈ sgn (Txt.join " " ys), c < 128 := fun c hc => by
  rw [sgn_join] at hc
  rcases joinL_mem hc with hc | ⟨l, hl, hc⟩
  · have : sgn (" " : Str) = [32] := by decide +kernel
    rw [this] at hc
    cases List.mem_singleton.mp hc; decide
  · obtain ⟨y, hy, rfl⟩ := List.mem_map.mp hl
    exact h y hy c hc
theorem num_lo {i : Int} (h : 0 ≤ i) : ∀ c ∈ sgn (numS i), c < 128 := fun c hc => by
  obtain ⟨n, rfl⟩ := Int.eq_ofNat_of_zero_le h
  exact (num_sgn n c hc).1
theorem txt_lo {a : Ans} (h : AnsOk a) : ∀ c ∈ sgn a.txt, c < 128 := by
  cases a with
  | opn => decide +kernel
  | shut o k w =>
    obtain ⟨_, hw⟩ := h o k w rfl
    refine joinB_lo fun y hy => ?_
    simp only [List.mem_cons, List.not_mem_nil, or_false] at hy
    rcases hy with rfl | rfl | rfl | rfl
    · decide +kernel
    · cases o <;> decide +kernel
    · exact num_lo (Int.natCast_nonneg k)
    · cases w with
      | none => show ∀ c ∈ sgn ("never" : Str), c < 128; decide +kernel
      | some i => exact num_lo (hw i rfl).1
theorem ans_str {s : Tn} (h : TnOk s) (hp : PplOk s.g.people) (hl : s.g.all.length ≤ 1000) (q : Qy) : PyData.strOk (ansT (ansQ s q).1) = true := by
  refine strOk_of ?_
  cases q with
  | names =>
    show ∀ c ∈ sgn (namesT (sortN (s.g.people.map (·.1)))), c < 128
    unfold namesT
    split
    · decide +kernel
    · refine joinB_lo fun y hy => ?_
      obtain ⟨p, hpp, rfl⟩ := List.mem_map.mp (sortN_mem hy)
      exact nameOk_lo (hp p hpp).1
  | kept => exact num_lo (keptOf_nonneg _ _ _ _)
  | call v nm t c =>
    show ∀ x ∈ sgn (ansT (gateA s v nm t c).1), x < 128
    unfold gateA
    split
    · rename_i r _
      have h6 : ∀ r : Rf, ∀ x ∈ sgn (ansT (.inl (.gate r))), x < 128 := fun r => by cases r <;> decide +kernel
      exact h6 r
    · rename_i hr
      obtain ⟨_, _, _, q1, q2, q3, hnm, hlt, ht0, ht1, hc0, hc1⟩ := refu_none hr
      cases q1; cases q2; cases q3
      exact txt_lo (ask_ok h hl ht0 (by omega) hc1)
theorem join_pos {y : Str} {r : List Str} (h : 1 ≤ y.length) : 1 ≤ (Txt.join " " (y :: r)).length := by
  rw [← sgn_len, sgn_join]
  rw [← sgn_len] at h
  cases r with
  | nil => exact h
  | cons z r =>
    show 1 ≤ (sgn y ++ (sgn " " ++ TL.joinL (sgn " ") (sgn z :: r.map sgn))).length
    rw [List.length_append]
    omega
theorem namesT_eq {ys : List Str} (h : ∀ y ∈ ys, nameOk y = true) : (ys ≠ [] → namesT ys = Txt.join " " ys) ∧ (ys = [] → namesT ys = "-") := by
  refine ⟨fun hn => ?_, fun hn => by subst hn; decide +kernel⟩
  unfold namesT
  rw [if_neg]
  cases ys with
  | nil => exact absurd rfl hn
  | cons y r =>
    have h1 := nameOk_len (h y List.mem_cons_self)
    rw [Bool.and_eq_true, decide_eq_true_iff] at h1
    have := join_pos (y := y) (r := r) (by omega)
    omega
/-! the lines of the bounds -/
theorem tv_eq (b : Bd) : b.tv = .tup [.str b.kind, .int b.sz, .int b.par] := by cases b <;> rfl
def bline (w : Str) (b : Bd) : Str := Txt.join " " [w, b.kind, numS b.sz, numS b.par]
theorem bd_num {b : Bd} (h : b.ok) : (0 ≤ b.sz ∧ b.sz < 10000000000000000) ∧ 0 ≤ b.par ∧ b.par < 10000000000000000 := by
  cases b with
  | jar s f => obtain ⟨⟨h1, h2⟩, h3, h4⟩ := h; exact ⟨⟨by show 0 ≤ s; omega, by show s < _; omega⟩, h3, by show f < _; omega⟩
  | win m s => obtain ⟨⟨h1, h2⟩, h3, h4⟩ := h; exact ⟨⟨by show 0 ≤ m; omega, by show m < _; omega⟩, by show 0 ≤ s; omega, by show s < _; omega⟩
theorem kind_ok (b : Bd) : (Wd b.kind ∧ ∀ c ∈ sgn b.kind, c < 128 ∧ c ≠ 10) ∧ b.kind.length ≤ 10 ∧ b.kind ∈ (["jar", "window"] : List Str) ∧ bdW b.kind b.sz b.par = b := by
  cases b with
  | jar s f => exact ⟨⟨⟨by show sgn "jar" ≠ []; decide +kernel, by show 32 ∉ sgn "jar"; decide +kernel⟩, by show ∀ c ∈ sgn "jar", c < 128 ∧ c ≠ 10; decide +kernel⟩, by show ("jar" : Str).length ≤ 10; decide +kernel, List.mem_cons_self, if_pos rfl⟩
  | win m s => exact ⟨⟨⟨by show sgn "window" ≠ []; decide +kernel, by show 32 ∉ sgn "window"; decide +kernel⟩, by show ∀ c ∈ sgn "window", c < 128 ∧ c ≠ 10; decide +kernel⟩, by show ("window" : Str).length ≤ 10; decide +kernel, List.mem_cons_of_mem _ List.mem_cons_self, if_neg (by show ¬ ("window" : Str) = "jar"; decide +kernel)⟩
theorem oc_ok {w : Str} (h : w ∈ (["own", "common"] : List Str)) : (Wd w ∧ ∀ c ∈ sgn w, c < 128 ∧ c ≠ 10) ∧ w.length ≤ 10 ∧ ¬ w = "visit" := by
  simp only [List.mem_cons, List.not_mem_nil, or_false] at h
  rcases h with rfl | rfl
  · exact ⟨⟨⟨by decide +kernel, by decide +kernel⟩, by decide +kernel⟩, by decide +kernel, by decide +kernel⟩
  · exact ⟨⟨⟨by decide +kernel, by decide +kernel⟩, by decide +kernel⟩, by decide +kernel, by decide +kernel⟩
theorem blankR : (" " : Str) = repS 32 1 := by decide +kernel
theorem bline_ok {w : Str} (hw : w ∈ (["own", "common"] : List Str)) {b : Bd} (ok : b.ok) : (([w, b.kind, numS b.sz, numS b.par] : List Str).map (·.length)).sum + ([w, b.kind, numS b.sz, numS b.par] : List Str).length * (" " : Str).length ≤ 16777216 ∧
    wordsOf (bline w b) = [[w, b.kind, numS b.sz, numS b.par]] ∧ ((∀ c ∈ sgn (bline w b), c < 128) ∧ (bline w b).length ≤ 1000) ∧ ∀ s : Tn, s.gate = none → (s.lim w).length < 4 → rowA s [w, b.kind, numS b.sz, numS b.par] = (.inr "ok", s.add w b) := by
  obtain ⟨⟨s0, s1⟩, p0, p1⟩ := bd_num ok
  obtain ⟨a1, a2, a3⟩ := oc_ok hw
  obtain ⟨k1, k2, k3, k4⟩ := kind_ok b
  obtain ⟨z1, z2, z3⟩ := num_w s0 s1
  obtain ⟨y1, y2, y3⟩ := num_w p0 p1
  have hall : ∀ v ∈ ([w, b.kind, numS b.sz, numS b.par] : List Str), (Wd v ∧ ∀ c ∈ sgn v, c < 128 ∧ c ≠ 10) ∧ v.length ≤ 30 := fun v hv => by
    simp only [List.mem_cons, List.not_mem_nil, or_false] at hv
    rcases hv with rfl | rfl | rfl | rfl
    · exact ⟨a1, by omega⟩
    · exact ⟨k1, by omega⟩
    · exact ⟨⟨z1, z2⟩, by omega⟩
    · exact ⟨⟨y1, y2⟩, by omega⟩
  have hj := joinS_len (m := 1) (fun v hv => (hall v hv).2) (Nat.le_refl 4) (by decide)
  rw [← blankR] at hj
  have e : sgn (bline w b) = (List.replicate 0 32 ++ TL.joinL (List.replicate (0 + 1) 32) (([w, b.kind, numS b.sz, numS b.par] : List Str).map sgn)) ++ List.replicate 0 32 := by
    unfold bline
    rw [sgn_join, blankR, repS_sgn, List.replicate_zero, List.nil_append, List.append_nil]
  refine ⟨by omega, words_S (by rw [e]; exact body_wd (fun v hv => (hall v hv).1) (List.cons_ne_nil _ _)), ⟨fun c hc => by rw [e] at hc; exact body_sgn (fun v hv => (hall v hv).1) c hc, by have := hj.2; unfold bline; omega⟩, fun s hg hlim => ?_⟩
  obtain ⟨n1, n2⟩ := num_okI s0 s1
  obtain ⟨m1, m2⟩ := num_okI p0 p1
  rw [show rowA s [w, b.kind, numS b.sz, numS b.par] = boundA s [w, b.kind, numS b.sz, numS b.par] from if_pos hw]
  unfold boundA
  rw [if_neg (by simp), show at_ [w, b.kind, numS b.sz, numS b.par] 0 = w from rfl, show at_ [w, b.kind, numS b.sz, numS b.par] 1 = b.kind from rfl, show at_ [w, b.kind, numS b.sz, numS b.par] 2 = numS b.sz from rfl, show at_ [w, b.kind, numS b.sz, numS b.par] 3 = numS b.par from rfl, hg, decide_eq_true k3, if_neg (by decide), if_neg (by rw [n1]; decide), if_neg (by rw [m1]; decide), n2, m2, k4, if_neg (by rw [(bdOk_iff b).mpr ok]; decide), if_neg (by omega)]
theorem cntV_app (a b : List Str) : cntV (a ++ b) = cntV a + cntV b := by unfold cntV; rw [List.flatMap_append, List.countP_append]
theorem cntV_b {w : Str} (hw : w ∈ (["own", "common"] : List Str)) : ∀ {bs : List Bd}, (∀ b ∈ bs, b.ok) → cntV (bs.map (bline w)) = 0
  | [], _ => rfl
  | b :: r, h => by
    rw [List.map_cons, show bline w b :: r.map (bline w) = [bline w b] ++ r.map (bline w) from rfl, cntV_app, cntV_b hw fun c hc => h c (List.mem_cons_of_mem _ hc), Nat.add_zero]
    unfold cntV
    rw [List.flatMap_singleton, (bline_ok hw (h b List.mem_cons_self)).2.1, List.countP_cons, List.countP_nil, show isV [w, b.kind, numS b.sz, numS b.par] = false from decide_eq_false (oc_ok hw).2.2]
    rfl
theorem lim_add (s : Tn) (w : Str) (b : Bd) : ((s.add w b).lim w).length = (s.lim w).length + 1 := by
  unfold Tn.add Tn.lim
  by_cases h : w = "own"
  · simp only [h, if_true, List.length_append, List.length_singleton]
  · simp only [h, if_false, List.length_append, List.length_singleton]
theorem rep_snoc (n : Nat) (x : Str) (as : List Str) : as ++ x :: List.replicate n x = as ++ [x] ++ List.replicate n x := by rw [List.append_assoc]; rfl
theorem RanL.bounds {w : Str} (hw : w ∈ (["own", "common"] : List Str)) : ∀ {bs : List Bd} {lines as : List Str} {s : Tn}, RanL tn0 lines as s → (∀ b ∈ bs, b.ok) → s.gate = none → (s.lim w).length + bs.length ≤ 4 → RanL tn0 (lines ++ bs.map (bline w)) (as ++ List.replicate bs.length ("ok" : Str)) (bs.foldl (fun s b => s.add w b) s)
  | [], lines, as, s, R, _, _, _ => by
    rw [List.map_nil, List.append_nil, List.length_nil, List.replicate_zero, List.append_nil]
    exact R
  | b :: r, lines, as, s, R, ok, hg, hl => by
    rw [List.length_cons] at hl
    obtain ⟨_, hwd, _, hrow⟩ := bline_ok hw (ok b List.mem_cons_self)
    have R1 := RanL.snoc R hwd (hrow s hg (by omega))
    have R2 := RanL.bounds hw R1 (fun c hc => ok c (List.mem_cons_of_mem _ hc)) ((add_gate s w b).trans hg) (by rw [lim_add]; omega)
    rw [List.map_cons, List.length_cons, List.replicate_succ, show lines ++ bline w b :: r.map (bline w) = lines ++ [bline w b] ++ r.map (bline w) by rw [List.append_assoc]; rfl, rep_snoc]
    exact R2
theorem add_own : ∀ (bs : List Bd) (s : Tn), bs.foldl (fun s b => s.add "own" b) s = { s with own := s.own ++ bs }
  | [], s => by rw [List.append_nil]; rfl
  | b :: r, s => by
    rw [List.foldl_cons, add_own r, show s.add "own" b = { s with own := s.own ++ [b] } from if_pos rfl]
    simp only [List.append_assoc, List.singleton_append]
theorem add_com : ∀ (bs : List Bd) (s : Tn), bs.foldl (fun s b => s.add "common" b) s = { s with com := s.com ++ bs }
  | [], s => by rw [List.append_nil]; rfl
  | b :: r, s => by
    rw [List.foldl_cons, add_com r, show s.add "common" b = { s with com := s.com ++ [b] } from if_neg (by decide +kernel)]
    simp only [List.append_assoc, List.singleton_append]
theorem bounds_run {O C : List Bd} (kO : ∀ b ∈ O, b.ok) (kC : ∀ b ∈ C, b.ok) (lO : O.length ≤ 4) (lC : C.length ≤ 4) : RanL tn0 (O.map (bline "own") ++ C.map (bline "common")) (List.replicate (O.length + C.length) "ok") ⟨O, C, none⟩ := by
  have R1 := RanL.bounds (w := "own") List.mem_cons_self (RanL.nil tn0) kO rfl (by show 0 + _ ≤ 4; omega)
  rw [add_own, List.nil_append, List.nil_append] at R1
  have R2 := RanL.bounds (w := "common") (List.mem_cons_of_mem _ List.mem_cons_self) R1 kC rfl (by show (Tn.lim _ "common").length + _ ≤ 4; rw [show Tn.lim ({ tn0 with own := tn0.own ++ O } : Tn) "common" = [] from if_neg (by decide +kernel)]; show 0 + _ ≤ 4; omega)
  rw [add_com, List.replicate_append_replicate] at R2
  exact R2
/-! the law's turns -/
theorem foot_notL {A : Ad} {μ : M} {g : Addr} {own common : List Bd} {people : List (Str × Vs)} {all : Vs} {latest : Int} {pd : Addr} {cas : List Addr} {pas : List (Str × List Addr)} (G : GateAt A μ g own common people all latest pd cas pas) {a : Addr} {xs : List Dv} (h : μ a = some (.lst xs)) : ¬ Foot g pd cas pas a := by
  obtain ⟨n1, n2, n3⟩ := G.notL h fun _ _ z => nomatch z
  rintro (e | e | e | ⟨p, hp, e⟩)
  · exact n1 e
  · have := G.dic
    rw [← e, h] at this
    cases this
  · exact n2 e
  · exact n3 p hp e
structure K12I (A : Ad) (μ : M) (g la da pd : Addr) (cas : List Addr) (pas : List (Str × List Addr)) (s sR : Tn) (lines due : List Str) (j : Nat) : Prop where
  gate : GateAt A μ g s.own s.com s.g.people s.g.all s.g.latest pd cas pas
  ok : TnOk s
  ppl : PplOk s.g.people
  gsome : s.gate.isSome = true
  beg : sR.begin = s
  run : RanL tn0 lines due sR
  tx : ∀ z ∈ lines, (∀ c ∈ sgn z, c < 128) ∧ z.length ≤ 1000
  du : ∀ z ∈ due, PyData.strOk z = true
  lla : μ la = some (.lst (lines.map Dv.str))
  lda : μ da = some (.lst (due.map Dv.str))
  ne : la ≠ da
  all : s.g.all.length ≤ j
  cnt : cntV lines ≤ j
  len : lines.length ≤ 8 + j
theorem K12I.line {A : Ad} {μ : M} {g la da pd : Addr} {cas : List Addr} {pas : List (Str × List Addr)} {s sR : Tn} {lines due : List Str} {j : Nat} (I : K12I A μ g la da pd cas pas s sR lines due j) (o : MO) :
    GateAt A (updM μ la o) g s.own s.com s.g.people s.g.all s.g.latest pd cas pas ∧ (updM μ la o) da = some (.lst (due.map Dv.str)) := ⟨I.gate.lputL I.lla, (updM_ne I.ne.symm).trans I.lda⟩
theorem K12I.step {A : Ad} {μ μ2 : M} {g la da pd : Addr} {cas : List Addr} {pas pas' : List (Str × List Addr)} {s sR : Tn} {lines due : List Str} {j : Nat} {q : Qy} {l : Str} (I : K12I A μ g la da pd cas pas s sR lines due j) (hj : j ≤ 63) (hq : q.ok) (hl : LineOk q l)
    (G : GateAt A μ2 g (ansQ s q).2.own (ansQ s q).2.com (ansQ s q).2.g.people (ansQ s q).2.g.all (ansQ s q).2.g.latest pd cas pas') (fr : ∀ b o, (updM μ la (.lst (lines.map Dv.str ++ [.str l]))) b = some o → ¬ Foot g pd cas pas b → μ2 b = some o) :
    μ2 da = some (.lst (due.map Dv.str)) ∧ ∃ sR', K12I A (updM μ2 da (.lst (due.map Dv.str ++ [.str (ansT (ansQ s q).1)]))) g la da pd cas pas' (ansQ s q).2 sR' (lines ++ [l]) (due ++ [ansT (ansQ s q).1]) (j + 1) := by
  obtain ⟨G1, d1⟩ := I.line (.lst (lines.map Dv.str ++ [.str l]))
  have d2 := fr da _ d1 (foot_notL G1 d1)
  have l1 : (updM μ la (.lst (lines.map Dv.str ++ [.str l]))) la = some (.lst (lines.map Dv.str ++ [.str l])) := updM_same
  have l2 := fr la _ l1 (foot_notL G1 l1)
  obtain ⟨ws, hw, hs⟩ := hl.wd
  obtain ⟨o1, o2, o3, o4⟩ := ansQ_ok I.ok I.ppl I.gsome q
  have ha := I.all
  have hrow : rowA sR ws = ((ansQ s q).1, (ansQ s q).2) := by rw [spell_row sR hq hs, I.beg]
  refine ⟨d2, (ansQ s q).2, ⟨G.lputL d2, o1, o2, o3, begin_self o3, I.run.snoc hw hrow, fun z hz => ?_, fun z hz => ?_, ?_, ?_, I.ne, by omega, ?_, ?_⟩⟩
  · rcases List.mem_append.mp hz with hz | hz
    · exact I.tx z hz
    · rw [List.mem_singleton.mp hz]; exact ⟨hl.sg, hl.len⟩
  · rcases List.mem_append.mp hz with hz | hz
    · exact I.du z hz
    · rw [List.mem_singleton.mp hz]; exact ans_str I.ok I.ppl (by omega) q
  · rw [updM_ne I.ne, l2, List.map_append]; rfl
  · rw [updM_same, List.map_append]; rfl
  · rw [cntV_snoc hw]
    have := I.cnt
    split <;> omega
  · rw [List.length_append]
    have := I.len
    simp only [List.length_cons, List.length_nil]
    omega
theorem K12I.start {A : Ad} {μ : M} {g la da pd : Addr} {cas : List Addr} {O C : List Bd} (kO : ∀ b ∈ O, b.ok) (kC : ∀ b ∈ C, b.ok) (lO : O.length ≤ 4) (lC : C.length ≤ 4) (G : GateAt A μ g O C [] [] 0 pd cas [])
    (hla : μ la = some (.lst ((O.map (bline "own") ++ C.map (bline "common")).map Dv.str))) (hda : μ da = some (.lst ((List.replicate (O.length + C.length) ("ok" : Str)).map Dv.str))) (hne : la ≠ da) :
    K12I A μ g la da pd cas [] ⟨O, C, some ⟨[], [], 0⟩⟩ ⟨O, C, none⟩ (O.map (bline "own") ++ C.map (bline "common")) (List.replicate (O.length + C.length) "ok") 0 where
  gate := G
  ok := ⟨kO, kC, lO, lC, fun p hp => (nomatch hp), fun q hq => (nomatch hq), fun q hq => (nomatch hq), Nat.le_refl _, fun q hq => (nomatch hq)⟩
  ppl := fun q hq => (nomatch hq)
  gsome := rfl
  beg := rfl
  run := bounds_run kO kC lO lC
  tx := fun z hz => by
    rcases List.mem_append.mp hz with hz | hz
    · obtain ⟨b, hb, rfl⟩ := List.mem_map.mp hz
      exact (bline_ok List.mem_cons_self (kO b hb)).2.2.1
    · obtain ⟨b, hb, rfl⟩ := List.mem_map.mp hz
      exact (bline_ok (List.mem_cons_of_mem _ List.mem_cons_self) (kC b hb)).2.2.1
  du := fun z hz => by
    rw [List.eq_of_mem_replicate hz]
    decide +kernel
  lla := hla
  lda := hda
  ne := hne
  all := Nat.le_refl _
  cnt := by
    rw [cntV_app, cntV_b List.mem_cons_self kO, cntV_b (List.mem_cons_of_mem _ List.mem_cons_self) kC]
    exact Nat.le_refl _
  len := by rw [List.length_append, List.length_map, List.length_map]; omega
/-! parts as texts -/
theorem q_parts (q : Qy) : ∃ xs : List Dv, q.dv = .lst xs ∧ xs.length ≤ 4 ∧ (q.ok → (∀ x ∈ xs, SI x) ∧ xs.filterMap (fun d => some (strD d)) = q.ws.map Dv.str) := by
  cases q with
  | names => exact ⟨_, rfl, by decide, fun _ => ⟨fun x hx => by cases List.mem_singleton.mp hx; exact .str _, rfl⟩⟩
  | kept => exact ⟨_, rfl, by decide, fun _ => ⟨fun x hx => by cases List.mem_singleton.mp hx; exact .str _, rfl⟩⟩
  | call v nm t c =>
    refine ⟨_, rfl, Nat.le_refl _, fun hq => ⟨fun x hx => ?_, rfl⟩⟩
    obtain ⟨_, ⟨t0, t1⟩, c0, c1⟩ := hq
    simp only [List.mem_cons, List.not_mem_nil, or_false] at hx
    rcases hx with rfl | rfl | rfl | rfl
    · exact .str _
    · exact .str _
    · exact .int _ (small_log t0 (by omega))
    · exact .int _ (small_log c0 (by omega))
theorem bd_parts {b : Bd} (h : b.ok) : ∀ x ∈ [Dv.str b.kind, .int b.sz, .int b.par], SI x := fun x hx => by
  obtain ⟨⟨s0, s1⟩, p0, p1⟩ := bd_num h
  simp only [List.mem_cons, List.not_mem_nil, or_false] at hx
  rcases hx with rfl | rfl | rfl
  · exact .str _
  · exact .int _ (small_log s0 (by omega))
  · exact .int _ (small_log p0 (by omega))
theorem fm_line (w : Str) (bs : List Bd) : bs.filterMap (fun b => some (Dv.str (bline w b))) = (bs.map (bline w)).map Dv.str := by
  rw [fm_some (fun b => Dv.str (bline w b)), List.map_map]
  rfl
/-! the words that are spread -/
structure SpW (q : Qy) (ws : List Str) : Prop where
  sp : Spell q ws
  wd : ∀ w ∈ ws, Wd w ∧ ∀ c ∈ sgn w, c < 128 ∧ c ≠ 10
  ne : ws ≠ []
  len : ∀ w ∈ ws, w.length ≤ 30
  l4 : ws.length ≤ 4
theorem SpW.call {v : Bool} {nm w : Str} {t c : Int} (hq : (Qy.call v nm t c).ok) (hw : (Wd w ∧ ∀ x ∈ sgn w, x < 128 ∧ x ≠ 10) ∧ w.length ≤ 30 ∧ numOk w = true ∧ numV w = c) : SpW (.call v nm t c) [wayS v, nm, numS t, w] := by
  obtain ⟨hn, ⟨t0, t1⟩, _, _⟩ := hq
  obtain ⟨n1, n2, n3⟩ := nm8_ok hn
  obtain ⟨w1, w2, w3⟩ := way_ok v
  obtain ⟨z1, z2, z3⟩ := num_w t0 (by omega)
  have hall : ∀ u ∈ ([wayS v, nm, numS t, w] : List Str), (Wd u ∧ ∀ c ∈ sgn u, c < 128 ∧ c ≠ 10) ∧ u.length ≤ 30 := fun u hu => by
    simp only [List.mem_cons, List.not_mem_nil, or_false] at hu
    rcases hu with rfl | rfl | rfl | rfl
    · exact ⟨⟨w1, w2⟩, by omega⟩
    · exact ⟨⟨n1, n2⟩, by omega⟩
    · exact ⟨⟨z1, z2⟩, by omega⟩
    · exact ⟨hw.1, hw.2.1⟩
  exact ⟨⟨w, rfl, hw.2.2⟩, fun u hu => (hall u hu).1, List.cons_ne_nil _ _, fun u hu => (hall u hu).2, Nat.le_refl _⟩
theorem SpW.self {q : Qy} (hq : q.ok) : SpW q q.ws := by
  cases q with
  | names => exact ⟨rfl, fun w hw => by cases List.mem_singleton.mp hw; exact ⟨⟨by decide +kernel, by decide +kernel⟩, by decide +kernel⟩, List.cons_ne_nil _ _, fun w hw => by cases List.mem_singleton.mp hw; decide +kernel, by decide⟩
  | kept => exact ⟨rfl, fun w hw => by cases List.mem_singleton.mp hw; exact ⟨⟨by decide +kernel, by decide +kernel⟩, by decide +kernel⟩, List.cons_ne_nil _ _, fun w hw => by cases List.mem_singleton.mp hw; decide +kernel, by decide⟩
  | call v nm t c =>
    obtain ⟨z1, z2, z3⟩ := num_w hq.2.2.1 (show c < 10000000000000000 by have := hq.2.2.2; omega)
    obtain ⟨n1, n2⟩ := num_okI hq.2.2.1 (show c < 10000000000000000 by have := hq.2.2.2; omega)
    exact SpW.call hq ⟨⟨z1, z2⟩, by omega, n1, n2⟩
theorem q_call {q : Qy} (h : (2 : Int) < (q.ws.length : Int)) : ∃ v nm t c, q = .call v nm t c := by
  cases q with
  | names => exact absurd h (by simp [Qy.ws])
  | kept => exact absurd h (by simp [Qy.ws])
  | call v nm t c => exact ⟨_, _, _, _, rfl⟩
theorem nm8_str {nm : Str} (h : nm ∈ nm8) : PyData.strOk nm = true := strOk_of fun c hc => ((nm8_ok h).2.1 c hc).1
theorem way_str (v : Bool) : PyData.strOk (wayS v) = true := strOk_of fun c hc => ((way_ok v).2.1 c hc).1
theorem getD_mem {α : Type} {xs : List α} {i : Nat} {z : α} (h : i < xs.length) : xs.getD i z ∈ xs := by
  rw [List.getD_eq_getElem?_getD, List.getElem?_eq_getElem h]
  exact List.getElem_mem _
section
variable {K : Kf} {μ : M} {k : DK}
theorem d_mulB {i : Int} (h0 : 0 ≤ i) (h1 : i ≤ 100000) (h : k (.str (repS 32 i.toNat)) μ) : DOp K rMulSg (.str " ") (.int i) μ k := by
  rw [sg_b]
  exact d_mulSg h0 h1 h
theorem d_mulZ {i : Int} (h0 : 0 ≤ i) (h1 : i ≤ 100000) (h : k (.str (repS 48 i.toNat)) μ) : DOp K rMulSg (.str "0") (.int i) μ k := by
  rw [sg_0]
  exact d_mulSg h0 h1 h
end
theorem pad_len {p : Str} (h : p = "" ∨ p = "   ") : p.length ≤ 10 := by rcases h with rfl | rfl <;> decide +kernel
theorem pad_mem {p : Str} (h : p ∈ (["", "   "] : List Str)) : p = "" ∨ p = "   " := by simpa using h
theorem qk_ok {i : Nat} (h : i < 2) : (([.names, .kept] : List Qy).getD i .names).ok := by
  have : i = 0 ∨ i = 1 := by omega
  rcases this with rfl | rfl <;> trivial
theorem way_mem {i : Nat} (h : i < 3) : ∃ v, (["ask", "visit", "visit"] : List Str).getD i "" = wayS v := by
  have : i = 0 ∨ i = 1 ∨ i = 2 := by omega
  rcases this with rfl | rfl | rfl
  · exact ⟨false, rfl⟩
  · exact ⟨true, rfl⟩
  · exact ⟨true, rfl⟩
theorem nm_a {i : Nat} (h : i < 4) : (["a", "bb", "abcdefgh", "z"] : List Str).getD i "" ∈ nm8 := by
  have h1 : ∀ x ∈ (["a", "bb", "abcdefgh", "z"] : List Str), x ∈ nm8 := by decide +kernel
  exact h1 _ (getD_mem h)
theorem nm_b {i : Nat} (h : i < 4) : (["A", "abcdefghi", "a1", "-"] : List Str).getD i "" ∈ nm8 := by
  have h1 : ∀ x ∈ (["A", "abcdefghi", "a1", "-"] : List Str), x ∈ nm8 := by decide +kernel
  exact h1 _ (getD_mem h)

local macro_rules | `(tactic| walk_at "cm") => `(tactic| first | exact Or.inr ⟨by decide, by decide⟩ | exact Or.inl ⟨by decide, by decide⟩ | exact Or.inl ⟨by omega, by omega⟩ | exact Or.inr ⟨by omega, by omega⟩)
local macro_rules | `(tactic| walk_at "cd") => `(tactic| first | exact ⟨by decide, by decide⟩ | exact ⟨by omega, by omega⟩)
local macro_rules | `(tactic| walk_at "lens") => `(tactic| first | decide | assumption | (rw [List.length_map]; assumption) | (simp only [List.length_cons, List.length_nil, List.length_append, List.length_map, sizeLine_eq]; omega))
local macro_rules | `(tactic| walk_at "ix") => `(tactic| first | omega | (simp only [List.length_cons, List.length_nil, List.length_map]; omega))
local macro_rules | `(tactic| walk_at "le") => `(tactic| repeat (first | exact LeE.nil | refine LeE.same ?_ | refine LeE.drop ?_))
local macro_rules | `(tactic| walk_at "fl") => `(tactic| first | decide | exact putD_lt1 | exact putD_lt2 | exact putD_lt3 | exact putD_ltF (m := 4) rfl (by decide) | exact putD_ltF (m := 3) rfl (by decide) | exact len_ltE (m := 4) rfl (by decide) | exact len_ltE (m := 3) rfl (by decide) | exact len_ltE (m := 2) rfl (by decide))
local macro_rules | `(tactic| walk_at "sq") => `(tactic| first | assumption | exact .lst _ | exact .fro _ | exact .obj (by first | assumption | exact updM_same))
def top (i : Nat) : Stmt := PySem.Challenge.pw_turnstile_k12_whole_rows_played.main.body.getD i (.Pass ⟨0, 0, 0, 0⟩)
abbrev s_Meter_kept : Stmt := inClass (top 10) 3
abbrev s_JarMeter_init : Stmt := inClass (top 11) 0
abbrev s_JarMeter_level_at : Stmt := inClass (top 11) 1
abbrev s_JarMeter_wait : Stmt := inClass (top 11) 2
abbrev s_JarMeter_take : Stmt := inClass (top 11) 3
abbrev s_WindowMeter_init : Stmt := inClass (top 12) 0
abbrev s_WindowMeter_wait : Stmt := inClass (top 12) 1
abbrev s_WindowMeter_take : Stmt := inClass (top 12) 2
abbrev s_WindowMeter_kept : Stmt := inClass (top 12) 3
abbrev s_need_number : Stmt := top 17
abbrev s_Jar_init : Stmt := inClass (top 19) 0
abbrev s_Jar_meter : Stmt := inClass (top 19) 2
abbrev s_Window_init : Stmt := inClass (top 20) 0
abbrev s_Window_meter : Stmt := inClass (top 20) 2
abbrev s_need_bounds : Stmt := top 21
abbrev s_is_whole : Stmt := top 27
abbrev s_need_moment : Stmt := top 28
abbrev s_need_cost : Stmt := top 29
abbrev s_need_name : Stmt := top 30
abbrev s_meters_of : Stmt := top 33
abbrev s_Gate_init : Stmt := inClass (top 34) 0
abbrev s_Gate_meters_for : Stmt := inClass (top 34) 1
abbrev s_Gate_ask : Stmt := inClass (top 34) 2
abbrev s_Gate_visit : Stmt := inClass (top 34) 3
abbrev s_Gate_names : Stmt := inClass (top 34) 4
abbrev s_Gate_kept : Stmt := inClass (top 34) 5
abbrev s_name_of : Stmt := top 39
abbrev s_number_of : Stmt := top 40
abbrev s_need_words : Stmt := top 41
abbrev s_answer_text : Stmt := top 42
abbrev s_Turns_init : Stmt := inClass (top 43) 0
abbrev s_Turns_bound_row : Stmt := inClass (top 43) 1
abbrev s_Turns_begin : Stmt := inClass (top 43) 2
abbrev s_Turns_visit_row : Stmt := inClass (top 43) 3
abbrev s_Turns_answer_to : Stmt := inClass (top 43) 4
abbrev s_play : Stmt := top 44
abbrev s__law_cell : Stmt := top 46
abbrev s__law_bound : Stmt := top 47
abbrev s__law_made : Stmt := top 48
abbrev s__law_gap : Stmt := top 49
abbrev s__law_cost : Stmt := top 50
abbrev s__law_scale : Stmt := top 51
abbrev s__law_kind : Stmt := top 52
abbrev s__law_text : Stmt := top 53
abbrev s__law_answer : Stmt := top 54
abbrev s__law_spread : Stmt := top 55
abbrev s__law_row : Stmt := top 56
abbrev s_law : Stmt := top 57
section
variable {Pg : Program} {w : World} {K : Kf} {mg : Str → Option Value} {base : Heap} {A : Ad}
theorem sc_Meter_kept : FnScope ["self"] ["self"] (defScope s_Meter_kept) := ⟨rfl, rfl, rfl, by decide +kernel, rfl, by decide +kernel, by decide +kernel⟩
theorem ok_Meter_kept {f : Addr} {fd : FuncData} (F : Fun K "kept" "Meter.kept" s_Meter_kept f fd) (T : Txt K mg A) : FnOk Pg w K mg base (L2.CX Pg w) 1 f fd ["self"] (toSp K (S_Meter_kept A)) := by
  refine fn_data F sc_Meter_kept (fun ds μ kd ke h => ?_) (fun cdv A_ outer s H E c ow ds μ kd ke h => ?_)
  · obtain ⟨a_, rfl, hk⟩ := h; rfl
  · obtain ⟨a_, rfl, hk⟩ := h
    refine jb_cons (js_ret ?_)
    refine je_int ?_
    exact hk
theorem sc_JarMeter_init : FnScope ["self", "size", "flow"] ["self", "size", "flow"] (defScope s_JarMeter_init) := ⟨rfl, rfl, rfl, by decide +kernel, rfl, by decide +kernel, by decide +kernel⟩
theorem ok_JarMeter_init {f : Addr} {fd : FuncData} (F : Fun K "__init__" "JarMeter.__init__" s_JarMeter_init f fd) (T : Txt K mg A) : FnOk Pg w K mg base (L2.CX Pg w) 1 f fd ["self", "size", "flow"] (toSp K (S_JarMeter_init A)) := by
  refine fn_data F sc_JarMeter_init (fun ds μ kd ke h => ?_) (fun cdv A_ outer s H E c ow ds μ kd ke h => ?_)
  · obtain ⟨a_, size, flow, rfl, ha, hk⟩ := h; rfl
  · obtain ⟨a_, size, flow, rfl, ha, hk⟩ := h
    refine jb_cons (js_fld ?_)
    refine je_name 1 rfl rfl ?_
    refine je_name 0 rfl rfl ?_
    refine ⟨_, _, _, rfl, by first | assumption | exact updM_same | exact (updM_ne (ne_ofM updM_same ha_)).trans updM_same, T.cl_JarMeter, T.na_JarMeter_most, by walk_at "fl", ?_⟩
    refine jb_cons (js_fld ?_)
    refine je_name 2 rfl rfl ?_
    refine je_name 0 rfl rfl ?_
    refine ⟨_, _, _, rfl, by first | assumption | exact updM_same | exact (updM_ne (ne_ofM updM_same ha_)).trans updM_same, T.cl_JarMeter, T.na_JarMeter_flow, by walk_at "fl", ?_⟩
    refine jb_cons (js_fld ?_)
    refine je_name 1 rfl rfl ?_
    refine je_name 0 rfl rfl ?_
    refine ⟨_, _, _, rfl, by first | assumption | exact updM_same | exact (updM_ne (ne_ofM updM_same ha_)).trans updM_same, T.cl_JarMeter, T.na_JarMeter_level, by walk_at "fl", ?_⟩
    refine jb_cons (js_fld ?_)
    refine je_int ?_
    refine je_name 0 rfl rfl ?_
    refine ⟨_, _, _, rfl, by first | assumption | exact updM_same | exact (updM_ne (ne_ofM updM_same ha_)).trans updM_same, T.cl_JarMeter, T.na_JarMeter_last, by walk_at "fl", ?_⟩
    rw [updM_updM, updM_updM, updM_updM, jm_init]; exact jb_nil hk
theorem sc_JarMeter_level_at : FnScope ["self", "moment"] ["self", "moment"] (defScope s_JarMeter_level_at) := ⟨rfl, rfl, rfl, by decide +kernel, rfl, by decide +kernel, by decide +kernel⟩
theorem ok_JarMeter_level_at {f : Addr} {fd : FuncData} (F : Fun K "level_at" "JarMeter.level_at" s_JarMeter_level_at f fd) (T : Txt K mg A) : FnOk Pg w K mg base (L2.CX Pg w) 1 f fd ["self", "moment"] (toSp K (S_JarMeter_level_at A)) := by
  refine fn_data F sc_JarMeter_level_at (fun ds μ kd ke h => ?_) (fun cdv A_ outer s H E c ow ds μ kd ke h => ?_)
  · obtain ⟨a_, s, f, l, t0, moment, rfl, ha, ⟨o1, o2⟩, hk⟩ := h; rfl
  · obtain ⟨a_, s, f, l, t0, moment, rfl, ha, ⟨o1, o2⟩, hk⟩ := h
    refine jb_cons (js_ret ?_)
    refine je_cB (call_min2 c.calm) T.m_min PyProof.Rows.boot_min ?_
    refine ja_cons ?_
    refine je_fld ?_
    refine je_name 0 rfl rfl ?_
    refine ⟨_, _, _, by first | exact .ins _ _ | exact .obj (by first | assumption | exact updM_same | exact hμ _ _ (by assumption)), T.cl_JarMeter, T.na_JarMeter_most, jmF_most .., ?_⟩
    refine ja_cons ?_
    refine je_add ?_
    refine je_fld ?_
    refine je_name 0 rfl rfl ?_
    refine ⟨_, _, _, by first | exact .ins _ _ | exact .obj (by first | assumption | exact updM_same | exact hμ _ _ (by assumption)), T.cl_JarMeter, T.na_JarMeter_level, jmF_level .., ?_⟩
    refine je_mul ?_
    refine je_fld ?_
    refine je_name 0 rfl rfl ?_
    refine ⟨_, _, _, by first | exact .ins _ _ | exact .obj (by first | assumption | exact updM_same | exact hμ _ _ (by assumption)), T.cl_JarMeter, T.na_JarMeter_flow, jmF_flow .., ?_⟩
    refine je_sub ?_
    refine je_name 1 rfl rfl ?_
    refine je_fld ?_
    refine je_name 0 rfl rfl ?_
    refine ⟨_, _, _, by first | exact .ins _ _ | exact .obj (by first | assumption | exact updM_same | exact hμ _ _ (by assumption)), T.cl_JarMeter, T.na_JarMeter_last, jmF_last .., ?_⟩
    refine d_subI ?_
    first | refine d_mulI (by walk_at "cm") ?_ | refine d_mulL1 (by constructor) (by omega) ?_
    first | refine d_addI ?_ | refine d_addL (by constructor) (by constructor) (by walk_at "lens") ?_ | refine d_addS (by walk_at "lens") ?_ | refine d_addT (by walk_at "lens") ?_
    refine ja_nil ?_
    refine d_min2 ?_
    exact hk
theorem sc_JarMeter_wait : FnScope ["self", "moment", "cost", "lack"] ["self", "moment", "cost"] (defScope s_JarMeter_wait) := ⟨rfl, rfl, rfl, by decide +kernel, rfl, by decide +kernel, by decide +kernel⟩
theorem ok_JarMeter_wait {f : Addr} {fd : FuncData} (F : Fun K "wait" "JarMeter.wait" s_JarMeter_wait f fd) (T : Txt K mg A) (M_JarMeter_level_at : DMet Pg w K mg base 1 A.CJM "level_at" (S_JarMeter_level_at A) []) : FnOk Pg w K mg base (L2.CX Pg w) 2 f fd ["self", "moment", "cost"] (toSp K (S_JarMeter_wait A)) := by
  refine fn_data F sc_JarMeter_wait (fun ds μ kd ke h => ?_) (fun cdv A_ outer s H E c ow ds μ kd ke h => ?_)
  · obtain ⟨a_, s, f, l, t0, moment, cost, rfl, ha, ⟨o1, o2⟩, hk⟩ := h; rfl
  · obtain ⟨a_, s, f, l, t0, moment, cost, rfl, ha, ⟨o1, o2⟩, hk⟩ := h
    refine jb_cons (js_set 3 c rfl ?_)
    refine je_sub ?_
    refine je_name 2 rfl rfl ?_
    refine je_meth c ?_
    refine je_name 0 rfl rfl ?_
    refine ⟨_, _, _, _, _, .obj ha, jmF_no _ _ _ _ (by decide +kernel) (by decide +kernel) (by decide +kernel) (by decide +kernel), M_JarMeter_level_at, by decide, ?_⟩
    refine ja_cons ?_
    refine je_name 1 rfl rfl ?_
    refine ja_nil ?_
    refine ⟨_, _, _, _, _, _, rfl, ha, ⟨o1, o2⟩, ?_⟩
    refine d_subI ?_
    refine jb_cons (js_if ?_)
    refine jt_le ?_
    refine je_name 3 rfl rfl ?_
    refine je_int ?_
    refine d_cmpI ?_
    refine ⟨_, rfl, ?_⟩
    refine ⟨fun h1 => ?_, fun h1 => ?_⟩
    ·
      refine jb_cons (js_ret ?_)
      refine je_int ?_
      rw [show (Mt.jar s f l t0).wait moment cost = some 0 from if_pos (of_decide_eq_true h1)] at hk; exact hk
    refine jb_nil ?_
    refine jb_cons (js_if ?_)
    refine jt_w ?_
    apply jw_orP
    ·
      refine jt_gt ?_
      refine je_name 2 rfl rfl ?_
      refine je_fld ?_
      refine je_name 0 rfl rfl ?_
      refine ⟨_, _, _, by first | exact .ins _ _ | exact .obj (by first | assumption | exact updM_same | exact hμ _ _ (by assumption)), T.cl_JarMeter, T.na_JarMeter_most, jmF_most .., ?_⟩
      refine d_cmpI ?_
      refine ⟨_, rfl, ?_⟩
      exact ⟨rfl, rfl⟩
    ·
      intro h2
      refine jw_or1 ?_
      refine jt_eq c ?_
      refine je_fld ?_
      refine je_name 0 rfl rfl ?_
      refine ⟨_, _, _, by first | exact .ins _ _ | exact .obj (by first | assumption | exact updM_same | exact hμ _ _ (by assumption)), T.cl_JarMeter, T.na_JarMeter_flow, jmF_flow .., ?_⟩
      refine je_int ?_
      first | refine d_eqI ?_ | refine d_eqS ?_ | refine d_eqB ?_ | refine d_eqNI ?_
      refine ⟨_, rfl, ?_⟩
      exact ⟨rfl, rfl⟩
    refine ⟨fun h3 => ?_, fun h3 => ?_⟩
    ·
      refine jb_cons (js_ret ?_)
      refine je_non ?_
      rw [show (Mt.jar s f l t0).wait moment cost = none from (if_neg (of_decide_eq_false h1)).trans (if_pos (by simpa using ‹(decide (s < cost) || decide (f = 0)) = true›))] at hk; exact hk
    refine jb_nil ?_
    obtain ⟨w1, w2⟩ : cost ≤ s ∧ ¬ f = 0 := by simpa using ‹(decide (s < cost) || decide (f = 0)) = false›
    refine jb_cons (js_ret ?_)
    refine je_fdiv ?_
    refine je_sub ?_
    refine je_add ?_
    refine je_name 3 rfl rfl ?_
    refine je_fld ?_
    refine je_name 0 rfl rfl ?_
    refine ⟨_, _, _, by first | exact .ins _ _ | exact .obj (by first | assumption | exact updM_same | exact hμ _ _ (by assumption)), T.cl_JarMeter, T.na_JarMeter_flow, jmF_flow .., ?_⟩
    first | refine d_addI ?_ | refine d_addL (by constructor) (by constructor) (by walk_at "lens") ?_ | refine d_addS (by walk_at "lens") ?_ | refine d_addT (by walk_at "lens") ?_
    refine je_int ?_
    refine d_subI ?_
    refine je_fld ?_
    refine je_name 0 rfl rfl ?_
    refine ⟨_, _, _, by first | exact .ins _ _ | exact .obj (by first | assumption | exact updM_same | exact hμ _ _ (by assumption)), T.cl_JarMeter, T.na_JarMeter_flow, jmF_flow .., ?_⟩
    refine d_fdivI (by walk_at "cd") ?_
    rw [show (Mt.jar s f l t0).wait moment cost = some _ from (if_neg (of_decide_eq_false h1)).trans (if_neg (by omega))] at hk; exact hk
theorem sc_JarMeter_take : FnScope ["self", "moment", "cost"] ["self", "moment", "cost"] (defScope s_JarMeter_take) := ⟨rfl, rfl, rfl, by decide +kernel, rfl, by decide +kernel, by decide +kernel⟩
theorem ok_JarMeter_take {f : Addr} {fd : FuncData} (F : Fun K "take" "JarMeter.take" s_JarMeter_take f fd) (T : Txt K mg A) (M_JarMeter_level_at : DMet Pg w K mg base 1 A.CJM "level_at" (S_JarMeter_level_at A) []) : FnOk Pg w K mg base (L2.CX Pg w) 2 f fd ["self", "moment", "cost"] (toSp K (S_JarMeter_take A)) := by
  refine fn_data F sc_JarMeter_take (fun ds μ kd ke h => ?_) (fun cdv A_ outer s H E c ow ds μ kd ke h => ?_)
  · obtain ⟨a_, s, f, l, t0, moment, cost, rfl, ha, ⟨o1, o2⟩, hk⟩ := h; rfl
  · obtain ⟨a_, s, f, l, t0, moment, cost, rfl, ha, ⟨o1, o2⟩, hk⟩ := h
    refine jb_cons (js_fld ?_)
    refine je_sub ?_
    refine je_meth c ?_
    refine je_name 0 rfl rfl ?_
    refine ⟨_, _, _, _, _, .obj ha, jmF_no _ _ _ _ (by decide +kernel) (by decide +kernel) (by decide +kernel) (by decide +kernel), M_JarMeter_level_at, by decide, ?_⟩
    refine ja_cons ?_
    refine je_name 1 rfl rfl ?_
    refine ja_nil ?_
    refine ⟨_, _, _, _, _, _, rfl, ha, ⟨o1, o2⟩, ?_⟩
    refine je_name 2 rfl rfl ?_
    refine d_subI ?_
    refine je_name 0 rfl rfl ?_
    refine ⟨_, _, _, rfl, by first | assumption | exact updM_same | exact (updM_ne (ne_ofM updM_same ha_)).trans updM_same, T.cl_JarMeter, T.na_JarMeter_level, by walk_at "fl", ?_⟩
    refine jb_cons (js_fld ?_)
    refine je_name 1 rfl rfl ?_
    refine je_name 0 rfl rfl ?_
    refine ⟨_, _, _, rfl, by first | assumption | exact updM_same | exact (updM_ne (ne_ofM updM_same ha_)).trans updM_same, T.cl_JarMeter, T.na_JarMeter_last, by walk_at "fl", ?_⟩
    rw [updM_updM, jm_take]; exact jb_nil hk
theorem sc_WindowMeter_init : FnScope ["self", "most", "span"] ["self", "most", "span"] (defScope s_WindowMeter_init) := ⟨rfl, rfl, rfl, by decide +kernel, rfl, by decide +kernel, by decide +kernel⟩
theorem ok_WindowMeter_init {f : Addr} {fd : FuncData} (F : Fun K "__init__" "WindowMeter.__init__" s_WindowMeter_init f fd) (T : Txt K mg A) : FnOk Pg w K mg base (L2.CX Pg w) 1 f fd ["self", "most", "span"] (toSp K (S_WindowMeter_init A)) := by
  refine fn_data F sc_WindowMeter_init (fun ds μ kd ke h => ?_) (fun cdv A_ outer s H E c ow ds μ kd ke h => ?_)
  · obtain ⟨a_, most, span, rfl, ha, hk⟩ := h; rfl
  · obtain ⟨a_, most, span, rfl, ha, hk⟩ := h
    refine jb_cons (js_fld ?_)
    refine je_name 1 rfl rfl ?_
    refine je_name 0 rfl rfl ?_
    refine ⟨_, _, _, rfl, by first | assumption | exact updM_same | exact (updM_ne (ne_ofM updM_same ha_)).trans updM_same, T.cl_WindowMeter, T.na_WindowMeter_most, by walk_at "fl", ?_⟩
    refine jb_cons (js_fld ?_)
    refine je_name 2 rfl rfl ?_
    refine je_name 0 rfl rfl ?_
    refine ⟨_, _, _, rfl, by first | assumption | exact updM_same | exact (updM_ne (ne_ofM updM_same ha_)).trans updM_same, T.cl_WindowMeter, T.na_WindowMeter_span, by walk_at "fl", ?_⟩
    refine jb_cons (js_fld ?_)
    refine (je_lst ?_ : _)
    refine ja_nil ?_
    refine ⟨by walk_at "lens", ?_⟩
    refine je_name 0 rfl rfl ?_
    refine ⟨_, _, _, rfl, by first | assumption | exact updM_same | exact (updM_ne (ne_ofM updM_same ha_)).trans updM_same, T.cl_WindowMeter, T.na_WindowMeter_rows, by walk_at "fl", ?_⟩
    rw [updM_updM, updM_updM, wm_init]; exact jb_nil hk
theorem sc_WindowMeter_wait : FnScope ["self", "moment", "cost", "rows", "used", "found", "row"] ["self", "moment", "cost"] (defScope s_WindowMeter_wait) := ⟨rfl, rfl, rfl, by decide +kernel, rfl, by decide +kernel, by decide +kernel⟩
theorem ok_WindowMeter_wait {f : Addr} {fd : FuncData} (F : Fun K "wait" "WindowMeter.wait" s_WindowMeter_wait f fd) (T : Txt K mg A) : FnOk Pg w K mg base (L2.CX Pg w) 1 f fd ["self", "moment", "cost"] (toSp K (S_WindowMeter_wait A)) := by
  refine fn_data F sc_WindowMeter_wait (fun ds μ kd ke h => ?_) (fun cdv A_ outer s H E c ow ds μ kd ke h => ?_)
  · obtain ⟨a_, m, s, r, moment, cost, rfl, ha, hl, hk⟩ := h; rfl
  · obtain ⟨a_, m, s, r, moment, cost, rfl, ha, hl, hk⟩ := h
    have hl2 := List.length_filter_le (fun p : Int × Int => decide (moment - s < p.1)) r
    have hl3 : r.length ≤ 100000 := hl
    have hl4 : (keepV s moment r).length ≤ 100000 := Nat.le_trans hl2 hl3
    have hsl := sizeLine_eq
    refine jb_cons (js_if ?_)
    refine jt_gt ?_
    refine je_name 2 rfl rfl ?_
    refine je_fld ?_
    refine je_name 0 rfl rfl ?_
    refine ⟨_, _, _, by first | exact .ins _ _ | exact .obj (by first | assumption | exact updM_same | exact hμ _ _ (by assumption)), T.cl_WindowMeter, T.na_WindowMeter_most, wmF_most .., ?_⟩
    refine d_cmpI ?_
    refine ⟨_, rfl, ?_⟩
    refine ⟨fun h1 => ?_, fun h1 => ?_⟩
    ·
      refine jb_cons (js_ret ?_)
      refine je_non ?_
      rw [show (Mt.win m s r).wait moment cost = none from if_pos (of_decide_eq_true h1)] at hk; exact hk
    refine jb_nil ?_
    refine jb_cons (js_setLcG (x := "row") 6 3 c.calm c.nd rfl rfl (sw_true rfl rfl rfl (by decide +kernel)) (blkOk_by (N := ["self", "moment", "cost", "rows", "used", "found", "row"]) (sc := defScope s_WindowMeter_wait) (by decide +kernel)) (fun _ _ _ _ _ => pg_name (i := 6) c.nd rfl (Or.inl rfl)) ?_)
    refine ji_seq ?_
    refine je_fld ?_
    refine je_name 0 rfl rfl ?_
    refine ⟨_, _, _, by first | exact .ins _ _ | exact .obj (by first | assumption | exact updM_same | exact hμ _ _ (by assumption)), T.cl_WindowMeter, T.na_WindowMeter_rows, wmF_rows .., ?_⟩
    refine ⟨_, by walk_at "sq", ?_⟩
    refine lc_map (encV.dv) (r) (fun p => if moment - s < p.1 then some (encV.dv p) else none) rfl (by first | trivial | exact .lst _ | assumption) (by first | omega | walk_at "lens") (fun j x μ' hx hμ => ?_) ?_
    ·
      intro s1 H1 C1 cl1 fp1
      refine jt_gt ?_
      refine je_ix ?_
      refine je_name 6 rfl rfl ?_
      refine je_int ?_
      first | refine d_ixT rfl ?_ | refine d_ixB0 ?_
      refine je_sub ?_
      refine je_name 1 rfl rfl ?_
      refine je_fld ?_
      refine je_name 0 rfl rfl ?_
      refine ⟨_, _, _, by first | exact .ins _ _ | exact .obj (by first | assumption | exact updM_same | exact hμ _ _ (by assumption)), T.cl_WindowMeter, T.na_WindowMeter_span, wmF_span .., ?_⟩
      refine d_subI ?_
      refine d_cmpI ?_
      refine ⟨_, rfl, ?_⟩
      refine ⟨fun h2 s2 H2 C2 cl2 fp2 => ?_, fun h2 => ⟨(if_neg (of_decide_eq_false h2)).symm, rfl⟩⟩
      refine je_name 6 rfl rfl ?_
      exact ⟨(if_pos (of_decide_eq_true h2)).symm, rfl⟩
    rw [fm_keep]
    refine jb_cons (js_set 4 c rfl ?_)
    refine je_add ?_
    refine je_cB (cr_sum c.calm) T.m_sum PyProof.Rows.boot_sum ?_
    refine ja_cons ?_
    refine je_lcG (x := "row") 6 c.calm c.nd (blkOk_by (N := ["self", "moment", "cost", "rows", "used", "found", "row"]) (sc := defScope s_WindowMeter_wait) (by decide +kernel)) (fun _ _ _ _ _ => pg_name (i := 6) c.nd rfl (Or.inl rfl)) ?_
    refine ji_seq ?_
    refine je_name 3 rfl rfl ?_
    refine ⟨_, by walk_at "sq", ?_⟩
    refine lc_map (encV.dv) (keepV s moment r) (fun p => some (.int p.2)) rfl (by first | trivial | exact .lst _ | assumption) (by first | omega | walk_at "lens") (fun j x μ' hx hμ => ?_) ?_
    ·
      intro s1 H1 C1 cl1 fp1
      refine ⟨fun _ s2 H2 C2 cl2 fp2 => ?_, fun z => nomatch z⟩
      refine je_ix ?_
      refine je_name 6 rfl rfl ?_
      refine je_int ?_
      first | refine d_ixT rfl ?_ | refine d_ixB1 ?_
      exact ⟨rfl, rfl⟩
    rw [fm_costs]
    refine ja_nil ?_
    refine d_sum (.lst _) ?_
    rw [sumc_sum]
    refine je_name 2 rfl rfl ?_
    first | refine d_addI ?_ | refine d_addL (by constructor) (by constructor) (by walk_at "lens") ?_ | refine d_addS (by walk_at "lens") ?_ | refine d_addT (by walk_at "lens") ?_
    refine jb_cons (js_set 5 c rfl ?_)
    refine je_int ?_
    refine jb_cons (js_forT 6 c.calm ow (pg_name (i := 6) c.nd rfl (by first | exact Or.inl rfl | exact Or.inr rfl)) ?_)
    refine ji_seq ?_
    refine je_name 3 rfl rfl ?_
    refine ⟨_, by walk_at "sq", ?_⟩
    have hk2 : kd (.int (wloop m s moment (keepV s moment r) (sumc (keepV s moment r) + cost) 0)) μ := by
      rw [show (Mt.win m s r).wait moment cost = some _ from if_neg (of_decide_eq_false h1)] at hk
      exact hk
    clear hk
    generalize hw0 : wloop m s moment (keepV s moment r) (sumc (keepV s moment r) + cost) 0 = w0 at *
    refine ⟨fun j e μ' => (∃ u f, wloop m s moment ((keepV s moment r).drop j) u f = w0 ∧ e = [some (.obj a_), some (.int moment), some (.int cost), some (.lst ((keepV s moment r).map encV.dv)), some (.int u), some (.int f), none]) ∧ μ = μ', ?_, fun _ _ _ _ => .lst _, fun j x e μ' hx iv => ?_, fun e μ' iv n' hle => ?_⟩
    · exact ⟨_, LeE.refl _, ⟨_, _, by assumption, rfl⟩, rfl⟩
    ·
      obtain ⟨⟨u, f, hw, rfl⟩, rfl⟩ := iv
      obtain ⟨p, hp, rfl⟩ := map_item (f := encV.dv) hx
      rw [drop_of_get hp] at hw
      replace hw : (if u ≤ m then f else wloop m s moment ((keepV s moment r).drop (j + 1)) (u - p.2) (p.1 + s - moment)) = w0 := hw
      refine jb_cons (js_if ?_)
      refine jt_le ?_
      refine je_name 4 rfl rfl ?_
      refine je_fld ?_
      refine je_name 0 rfl rfl ?_
      refine ⟨_, _, _, by first | exact .ins _ _ | exact .obj (by first | assumption | exact updM_same | exact hμ _ _ (by assumption)), T.cl_WindowMeter, T.na_WindowMeter_most, wmF_most .., ?_⟩
      refine d_cmpI ?_
      refine ⟨_, rfl, ?_⟩
      refine ⟨fun h3 => ?_, fun h3 => ?_⟩
      ·
        refine jb_cons (js_break ?_)
        rw [if_pos (of_decide_eq_true h3)] at hw
        subst hw
        exact jb_cons (js_ret (je_name 5 rfl rfl hk2))
      refine jb_nil ?_
      refine jb_cons (js_augI 4 c rfl ip_sub rfl ?_)
      refine je_ix ?_
      refine je_name 6 rfl rfl ?_
      refine je_int ?_
      first | refine d_ixT rfl ?_ | refine d_ixB1 ?_
      refine ⟨_, rfl, ?_⟩
      refine jb_cons (js_set 5 c rfl ?_)
      refine je_sub ?_
      refine je_add ?_
      refine je_ix ?_
      refine je_name 6 rfl rfl ?_
      refine je_int ?_
      first | refine d_ixT rfl ?_ | refine d_ixB0 ?_
      refine je_fld ?_
      refine je_name 0 rfl rfl ?_
      refine ⟨_, _, _, by first | exact .ins _ _ | exact .obj (by first | assumption | exact updM_same | exact hμ _ _ (by assumption)), T.cl_WindowMeter, T.na_WindowMeter_span, wmF_span .., ?_⟩
      first | refine d_addI ?_ | refine d_addL (by constructor) (by constructor) (by walk_at "lens") ?_ | refine d_addS (by walk_at "lens") ?_ | refine d_addT (by walk_at "lens") ?_
      refine je_name 1 rfl rfl ?_
      refine d_subI ?_
      refine jb_nil ?_
      rw [if_neg (of_decide_eq_false h3)] at hw
      refine ⟨_, ?_, ⟨_, _, hw, rfl⟩, rfl⟩
      walk_at "le"
    obtain ⟨⟨u, f, hw, rfl⟩, rfl⟩ := iv
    refine JB.le ?_ hle
    rw [show (Src.seq (.lst ((keepV s moment r).map encV.dv)) ((keepV s moment r).map encV.dv)).items.length = (keepV s moment r).length from List.length_map .., List.drop_length] at hw
    subst hw
    refine jb_cons (js_ret ?_)
    refine je_name 5 rfl rfl ?_
    exact hk2
theorem sc_WindowMeter_take : FnScope ["self", "moment", "cost", "row"] ["self", "moment", "cost"] (defScope s_WindowMeter_take) := ⟨rfl, rfl, rfl, by decide +kernel, rfl, by decide +kernel, by decide +kernel⟩
theorem ok_WindowMeter_take {f : Addr} {fd : FuncData} (F : Fun K "take" "WindowMeter.take" s_WindowMeter_take f fd) (T : Txt K mg A) : FnOk Pg w K mg base (L2.CX Pg w) 1 f fd ["self", "moment", "cost"] (toSp K (S_WindowMeter_take A)) := by
  refine fn_data F sc_WindowMeter_take (fun ds μ kd ke h => ?_) (fun cdv A_ outer s H E c ow ds μ kd ke h => ?_)
  · obtain ⟨a_, m, s, r, moment, cost, rfl, ha, hl, hk⟩ := h; rfl
  · obtain ⟨a_, m, s, r, moment, cost, rfl, ha, hl, hk⟩ := h
    have hl2 := List.length_filter_le (fun p : Int × Int => decide (moment - s < p.1)) r
    have hl3 : r.length ≤ 100000 := hl
    have hl4 : (keepV s moment r).length ≤ 100000 := Nat.le_trans hl2 hl3
    have hsl := sizeLine_eq
    refine jb_cons (js_fld ?_)
    refine je_add ?_
    refine je_lcG (x := "row") 3 c.calm c.nd (blkOk_by (N := ["self", "moment", "cost", "row"]) (sc := defScope s_WindowMeter_take) (by decide +kernel)) (fun _ _ _ _ _ => pg_name (i := 3) c.nd rfl (Or.inl rfl)) ?_
    refine ji_seq ?_
    refine je_fld ?_
    refine je_name 0 rfl rfl ?_
    refine ⟨_, _, _, by first | exact .ins _ _ | exact .obj (by first | assumption | exact updM_same | exact hμ _ _ (by assumption)), T.cl_WindowMeter, T.na_WindowMeter_rows, wmF_rows .., ?_⟩
    refine ⟨_, by walk_at "sq", ?_⟩
    refine lc_map (encV.dv) (r) (fun p => if moment - s < p.1 then some (encV.dv p) else none) rfl (by first | trivial | exact .lst _ | assumption) (by first | omega | walk_at "lens") (fun j x μ' hx hμ => ?_) ?_
    ·
      intro s1 H1 C1 cl1 fp1
      refine jt_gt ?_
      refine je_ix ?_
      refine je_name 3 rfl rfl ?_
      refine je_int ?_
      first | refine d_ixT rfl ?_ | refine d_ixB0 ?_
      refine je_sub ?_
      refine je_name 1 rfl rfl ?_
      refine je_fld ?_
      refine je_name 0 rfl rfl ?_
      refine ⟨_, _, _, by first | exact .ins _ _ | exact .obj (by first | assumption | exact updM_same | exact hμ _ _ (by assumption)), T.cl_WindowMeter, T.na_WindowMeter_span, wmF_span .., ?_⟩
      refine d_subI ?_
      refine d_cmpI ?_
      refine ⟨_, rfl, ?_⟩
      refine ⟨fun h1 s2 H2 C2 cl2 fp2 => ?_, fun h1 => ⟨(if_neg (of_decide_eq_false h1)).symm, rfl⟩⟩
      refine je_name 3 rfl rfl ?_
      exact ⟨(if_pos (of_decide_eq_true h1)).symm, rfl⟩
    rw [fm_keep]
    refine (je_lst ?_ : _)
    refine ja_cons ?_
    refine je_tup ?_
    refine ja_cons ?_
    refine je_name 1 rfl rfl ?_
    refine ja_cons ?_
    refine je_name 2 rfl rfl ?_
    refine ja_nil ?_
    refine ⟨by walk_at "lens", ?_⟩
    refine ja_nil ?_
    refine ⟨by walk_at "lens", ?_⟩
    first | refine d_addI ?_ | refine d_addL (by constructor) (by constructor) (by walk_at "lens") ?_ | refine d_addS (by walk_at "lens") ?_ | refine d_addT (by walk_at "lens") ?_
    refine je_name 0 rfl rfl ?_
    refine ⟨_, _, _, rfl, by first | assumption | exact updM_same | exact (updM_ne (ne_ofM updM_same ha_)).trans updM_same, T.cl_WindowMeter, T.na_WindowMeter_rows, by walk_at "fl", ?_⟩
    have e := wm_take m s r (keepV s moment r ++ [(moment, cost)])
    rw [List.map_append] at e
    rw [show putD "rows" (.lst ((keepV s moment r).map encV.dv ++ [Dv.tup [.int moment, .int cost]])) (wmF m s r) = wmF m s (keepV s moment r ++ [(moment, cost)]) from e]
    exact jb_nil hk
theorem sc_WindowMeter_kept : FnScope ["self"] ["self"] (defScope s_WindowMeter_kept) := ⟨rfl, rfl, rfl, by decide +kernel, rfl, by decide +kernel, by decide +kernel⟩
theorem ok_WindowMeter_kept {f : Addr} {fd : FuncData} (F : Fun K "kept" "WindowMeter.kept" s_WindowMeter_kept f fd) (T : Txt K mg A) : FnOk Pg w K mg base (L2.CX Pg w) 1 f fd ["self"] (toSp K (S_WindowMeter_kept A)) := by
  refine fn_data F sc_WindowMeter_kept (fun ds μ kd ke h => ?_) (fun cdv A_ outer s H E c ow ds μ kd ke h => ?_)
  · obtain ⟨a_, m, s, r, rfl, ha, hl, hk⟩ := h; rfl
  · obtain ⟨a_, m, s, r, rfl, ha, hl, hk⟩ := h
    refine jb_cons (js_ret ?_)
    refine je_cB call_lenA T.m_len PySem.boot_len ?_
    refine ja_cons ?_
    refine je_fld ?_
    refine je_name 0 rfl rfl ?_
    refine ⟨_, _, _, by first | exact .ins _ _ | exact .obj (by first | assumption | exact updM_same | exact hμ _ _ (by assumption)), T.cl_WindowMeter, T.na_WindowMeter_rows, wmF_rows .., ?_⟩
    refine ja_nil ?_
    first | refine d_lenM (by walk_at "sq") ?_ | refine d_lenL (by walk_at "sq") ?_ | refine d_lenT ?_ | refine d_lenS (by walk_at "lens") ?_
    exact hk
theorem sc_need_number : FnScope ["thing", "least", "most"] ["thing", "least", "most"] (defScope s_need_number) := ⟨rfl, rfl, rfl, by decide +kernel, rfl, by decide +kernel, by decide +kernel⟩
theorem ok_need_number {f : Addr} {fd : FuncData} (F : Fun K "need_number" "need_number" s_need_number f fd) (T : Txt K mg A) : FnOk Pg w K mg base (L2.CX Pg w) 1 f fd ["thing", "least", "most"] (toSp K (S_need_number A)) := by
  refine fn_data F sc_need_number (fun ds μ kd ke h => ?_) (fun cdv A_ outer s H E c ow ds μ kd ke h => ?_)
  · obtain ⟨thing, v, least, most, rfl, ht, hk1, hk2⟩ := h; rfl
  · obtain ⟨thing, v, least, most, rfl, ht, hk1, hk2⟩ := h
    refine jb_cons (js_if (jt_w ?_))
    rcases v with _ | i
    · refine jw_orP (!isIntD thing) true ?_ ?_ ⟨fun _ => jb_cons (js_raise c T.x_NoBound (hk2 rfl)), fun z => absurd z (by simp)⟩
      · refine jt_not (jt_val ?_)
        refine je_cB call_isiA T.m_isinstance PyProof.Rows.boot_isinstance (ja_cons (je_name 0 rfl rfl (ja_cons (je_bty T.m_int PyProof.Rows.boot_int (ja_nil (d_isInt ht ⟨_, rfl, rfl, rfl⟩))))))
      · intro h
        refine jw_or (jt_val ?_)
        refine je_cB call_isiA T.m_isinstance PyProof.Rows.boot_isinstance (ja_cons (je_name 0 rfl rfl (ja_cons (je_bty T.m_bool PyProof.Rows.boot_bool (ja_nil (d_isBool ht ⟨_, rfl, fun _ => ⟨rfl, rfl⟩, fun z => ?_⟩))))))
        have := ht.odd
        rw [h, z] at this
        cases this
    obtain rfl := ht.num
    refine jw_or (jt_not (jt_val ?_))
    refine je_cB call_isiA T.m_isinstance PyProof.Rows.boot_isinstance (ja_cons (je_name 0 rfl rfl (ja_cons (je_bty T.m_int PyProof.Rows.boot_int (ja_nil (d_isInt ht ⟨_, rfl, fun z => absurd (show false = true from z) (by decide), fun _ => ?_⟩))))))
    refine jw_or (jt_val ?_)
    refine je_cB call_isiA T.m_isinstance PyProof.Rows.boot_isinstance (ja_cons (je_name 0 rfl rfl (ja_cons (je_bty T.m_bool PyProof.Rows.boot_bool (ja_nil (d_isBool ht ⟨_, rfl, fun z => absurd (show false = true from z) (by decide), fun _ => ?_⟩))))))
    refine jw_or (jt_lt (je_name 0 rfl rfl (je_name 1 rfl rfl (d_cmpI ⟨_, rfl, fun z => ⟨fun _ => jb_cons (js_raise c T.x_NoBound (hk2 ?_)), fun z => nomatch z⟩, fun z => ?_⟩))))
    · have := of_decide_eq_true z
      show (decide (least ≤ i) && decide (i ≤ most)) = false
      rw [decide_eq_false (by omega)]; rfl
    refine jw_or1 (jt_gt (je_name 0 rfl rfl (je_name 2 rfl rfl (d_cmpI ⟨_, rfl, fun z2 => jb_cons (js_raise c T.x_NoBound (hk2 ?_)), fun z2 => jb_nil (jb_nil (hk1 ?_))⟩))))
    · have := of_decide_eq_true z2
      show (decide (least ≤ i) && decide (i ≤ most)) = false
      rw [decide_eq_false (show ¬ i ≤ most by omega)]; simp
    · have := of_decide_eq_false z
      have := of_decide_eq_false z2
      show (decide (least ≤ i) && decide (i ≤ most)) = true
      rw [decide_eq_true (by omega), decide_eq_true (by omega)]; rfl
theorem sc_Jar_init : FnScope ["self", "size", "flow"] ["self", "size", "flow"] (defScope s_Jar_init) := ⟨rfl, rfl, rfl, by decide +kernel, rfl, by decide +kernel, by decide +kernel⟩
theorem ok_Jar_init {f : Addr} {fd : FuncData} (F : Fun K "__init__" "Jar.__init__" s_Jar_init f fd) (T : Txt K mg A) (F_need_number : DCal Pg w K mg base 1 "need_number" (S_need_number A) []) : FnOk Pg w K mg base (L2.CX Pg w) 2 f fd ["self", "size", "flow"] (toSp K (S_Jar_init A)) := by
  refine fn_data F sc_Jar_init (fun ds μ kd ke h => ?_) (fun cdv A_ outer s H E c ow ds μ kd ke h => ?_)
  · obtain ⟨a_, size, flow, v, w, rfl, ha, h1, h2, hk1, hk2⟩ := h; rfl
  · obtain ⟨a_, size, flow, v, w, rfl, ha, h1, h2, hk1, hk2⟩ := h
    refine jb_cons (js_expr ?_)
    refine je_call c F_need_number (by decide) ?_
    refine ja_cons ?_
    refine je_name 1 rfl rfl ?_
    refine ja_cons ?_
    refine je_int ?_
    refine ja_cons ?_
    refine je_glob T.g_MOST_ROOM ?_
    refine ja_nil ?_
    refine ⟨_, _, _, _, rfl, by assumption, fun g => ?_, fun g => hk2 (by simp [g])⟩
    refine jb_cons (js_expr ?_)
    refine je_call c F_need_number (by decide) ?_
    refine ja_cons ?_
    refine je_name 2 rfl rfl ?_
    refine ja_cons ?_
    refine je_int ?_
    refine ja_cons ?_
    refine je_glob T.g_MOST_FLOW ?_
    refine ja_nil ?_
    refine ⟨_, _, _, _, rfl, by assumption, fun g => ?_, fun g => hk2 (by simp [g])⟩
    refine jb_cons (js_fld ?_)
    refine je_name 1 rfl rfl ?_
    refine je_name 0 rfl rfl ?_
    refine ⟨_, _, _, rfl, by first | assumption | exact updM_same | exact (updM_ne (ne_ofM updM_same ha_)).trans updM_same, T.cl_Jar, T.na_Jar_size, by walk_at "fl", ?_⟩
    refine jb_cons (js_fld ?_)
    refine je_name 2 rfl rfl ?_
    refine je_name 0 rfl rfl ?_
    refine ⟨_, _, _, rfl, by first | assumption | exact updM_same | exact (updM_ne (ne_ofM updM_same ha_)).trans updM_same, T.cl_Jar, T.na_Jar_flow, by walk_at "fl", ?_⟩
    rw [updM_updM]; exact jb_nil (hk1 (by simp [*]))
theorem sc_Jar_meter : FnScope ["self"] ["self"] (defScope s_Jar_meter) := ⟨rfl, rfl, rfl, by decide +kernel, rfl, by decide +kernel, by decide +kernel⟩
theorem ok_Jar_meter {f : Addr} {fd : FuncData} (F : Fun K "meter" "Jar.meter" s_Jar_meter f fd) (T : Txt K mg A) (F_JarMeter : DMak Pg w K mg base 1 "JarMeter" A.CJM (S_JarMeter_init A) []) : FnOk Pg w K mg base (L2.CX Pg w) 3 f fd ["self"] (toSp K (S_Jar_meter A)) := by
  refine fn_data F sc_Jar_meter (fun ds μ kd ke h => ?_) (fun cdv A_ outer s H E c ow ds μ kd ke h => ?_)
  · obtain ⟨s, f, rfl, hk⟩ := h; rfl
  · obtain ⟨s, f, rfl, hk⟩ := h
    refine jb_cons (js_ret ?_)
    refine je_make c F_JarMeter (by decide) ?_
    refine ja_cons ?_
    refine je_fld ?_
    refine je_name 0 rfl rfl ?_
    refine ⟨_, _, _, by first | exact .ins _ _ | exact .obj (by first | assumption | exact updM_same | exact hμ _ _ (by assumption)), T.cl_Jar, T.na_Jar_size, jarF_size .., ?_⟩
    refine ja_cons ?_
    refine je_fld ?_
    refine je_name 0 rfl rfl ?_
    refine ⟨_, _, _, by first | exact .ins _ _ | exact .obj (by first | assumption | exact updM_same | exact hμ _ _ (by assumption)), T.cl_Jar, T.na_Jar_flow, jarF_flow .., ?_⟩
    refine ja_nil ?_
    exact fun a_ ha_ => ⟨_, _, _, rfl, updM_same, rfl, .inl (by rw [updM_updM]; exact hk a_ ha_)⟩
    
theorem sc_Window_init : FnScope ["self", "most", "span"] ["self", "most", "span"] (defScope s_Window_init) := ⟨rfl, rfl, rfl, by decide +kernel, rfl, by decide +kernel, by decide +kernel⟩
theorem ok_Window_init {f : Addr} {fd : FuncData} (F : Fun K "__init__" "Window.__init__" s_Window_init f fd) (T : Txt K mg A) (F_need_number : DCal Pg w K mg base 1 "need_number" (S_need_number A) []) : FnOk Pg w K mg base (L2.CX Pg w) 2 f fd ["self", "most", "span"] (toSp K (S_Window_init A)) := by
  refine fn_data F sc_Window_init (fun ds μ kd ke h => ?_) (fun cdv A_ outer s H E c ow ds μ kd ke h => ?_)
  · obtain ⟨a_, most, span, v, w, rfl, ha, h1, h2, hk1, hk2⟩ := h; rfl
  · obtain ⟨a_, most, span, v, w, rfl, ha, h1, h2, hk1, hk2⟩ := h
    refine jb_cons (js_expr ?_)
    refine je_call c F_need_number (by decide) ?_
    refine ja_cons ?_
    refine je_name 1 rfl rfl ?_
    refine ja_cons ?_
    refine je_int ?_
    refine ja_cons ?_
    refine je_glob T.g_MOST_ROOM ?_
    refine ja_nil ?_
    refine ⟨_, _, _, _, rfl, by assumption, fun g => ?_, fun g => hk2 (by simp [g])⟩
    refine jb_cons (js_expr ?_)
    refine je_call c F_need_number (by decide) ?_
    refine ja_cons ?_
    refine je_name 2 rfl rfl ?_
    refine ja_cons ?_
    refine je_int ?_
    refine ja_cons ?_
    refine je_glob T.g_MOST_SPAN ?_
    refine ja_nil ?_
    refine ⟨_, _, _, _, rfl, by assumption, fun g => ?_, fun g => hk2 (by simp [g])⟩
    refine jb_cons (js_fld ?_)
    refine je_name 1 rfl rfl ?_
    refine je_name 0 rfl rfl ?_
    refine ⟨_, _, _, rfl, by first | assumption | exact updM_same | exact (updM_ne (ne_ofM updM_same ha_)).trans updM_same, T.cl_Window, T.na_Window_most, by walk_at "fl", ?_⟩
    refine jb_cons (js_fld ?_)
    refine je_name 2 rfl rfl ?_
    refine je_name 0 rfl rfl ?_
    refine ⟨_, _, _, rfl, by first | assumption | exact updM_same | exact (updM_ne (ne_ofM updM_same ha_)).trans updM_same, T.cl_Window, T.na_Window_span, by walk_at "fl", ?_⟩
    rw [updM_updM]; exact jb_nil (hk1 (by simp [*]))
theorem sc_Window_meter : FnScope ["self"] ["self"] (defScope s_Window_meter) := ⟨rfl, rfl, rfl, by decide +kernel, rfl, by decide +kernel, by decide +kernel⟩
theorem ok_Window_meter {f : Addr} {fd : FuncData} (F : Fun K "meter" "Window.meter" s_Window_meter f fd) (T : Txt K mg A) (F_WindowMeter : DMak Pg w K mg base 1 "WindowMeter" A.CWM (S_WindowMeter_init A) []) : FnOk Pg w K mg base (L2.CX Pg w) 3 f fd ["self"] (toSp K (S_Window_meter A)) := by
  refine fn_data F sc_Window_meter (fun ds μ kd ke h => ?_) (fun cdv A_ outer s H E c ow ds μ kd ke h => ?_)
  · obtain ⟨m, s, rfl, hk⟩ := h; rfl
  · obtain ⟨m, s, rfl, hk⟩ := h
    refine jb_cons (js_ret ?_)
    refine je_make c F_WindowMeter (by decide) ?_
    refine ja_cons ?_
    refine je_fld ?_
    refine je_name 0 rfl rfl ?_
    refine ⟨_, _, _, by first | exact .ins _ _ | exact .obj (by first | assumption | exact updM_same | exact hμ _ _ (by assumption)), T.cl_Window, T.na_Window_most, winF_most .., ?_⟩
    refine ja_cons ?_
    refine je_fld ?_
    refine je_name 0 rfl rfl ?_
    refine ⟨_, _, _, by first | exact .ins _ _ | exact .obj (by first | assumption | exact updM_same | exact hμ _ _ (by assumption)), T.cl_Window, T.na_Window_span, winF_span .., ?_⟩
    refine ja_nil ?_
    exact fun a_ ha_ => ⟨_, _, _, rfl, updM_same, rfl, .inl (by rw [updM_updM]; exact hk a_ ha_)⟩
    
theorem sc_need_bounds : FnScope ["bounds", "many", "one"] ["bounds", "many"] (defScope s_need_bounds) := ⟨rfl, rfl, rfl, by decide +kernel, rfl, by decide +kernel, by decide +kernel⟩
theorem ok_need_bounds {f : Addr} {fd : FuncData} (F : Fun K "need_bounds" "need_bounds" s_need_bounds f fd) (T : Txt K mg A) : FnOk Pg w K mg base (L2.CX Pg w) 1 f fd ["bounds", "many"] (toSp K (S_need_bounds A)) := by
  refine fn_data F sc_need_bounds (fun ds μ kd ke h => ?_) (fun cdv A_ outer s H E c ow ds μ kd ke h => ?_)
  · obtain ⟨d_, xs, ys, m, rfl, hd, ha, hz, hk1, hk2⟩ := h; rfl
  · obtain ⟨d_, xs, ys, m, rfl, hd, ha, hz, hk1, hk2⟩ := h
    obtain ⟨ps, e1, e2, e3⟩ := ha.zip
    have hlen := ha.length
    have hpl : ps.length = xs.length := by rw [← e1, List.length_map]
    refine jb_cons (js_if ?_)
    refine jt_w ?_
    apply jw_orP
    ·
      refine jt_not ?_
      refine jt_val ?_
      refine je_cB call_isiA T.m_isinstance PyProof.Rows.boot_isinstance ?_
      refine ja_cons ?_
      refine je_name 0 rfl rfl ?_
      refine ja_cons ?_
      refine je_tup ?_
      refine ja_cons ?_
      refine je_bty T.m_list PyProof.Rows.boot_list ?_
      refine ja_cons ?_
      refine je_bty T.m_tuple PyProof.Rows.boot_tuple ?_
      refine ja_nil ?_
      refine ⟨by walk_at "lens", ?_⟩
      refine ja_nil ?_
      refine d_isLTD hd ?_
      refine ⟨_, rfl, ?_⟩
      exact ⟨rfl, rfl⟩
    ·
      intro h1
      refine jw_or1 ?_
      refine jt_gt ?_
      refine je_cB call_lenA T.m_len PySem.boot_len ?_
      refine ja_cons ?_
      refine je_name 0 rfl rfl ?_
      refine ja_nil ?_
      refine d_lenLTD hd ?_
      refine je_name 1 rfl rfl ?_
      refine d_cmpI ?_
      refine ⟨_, rfl, ?_⟩
      exact ⟨rfl, rfl⟩
    refine ⟨fun h2 => ?_, fun h2 => ?_⟩
    ·
      refine jb_cons (js_raise c T.x_NoBound ?_)
      refine hk2 (by unfold goodBs; rw [decide_eq_false (by have := of_decide_eq_true (show decide (m < (xs.length : Int)) = true by simpa using h2); omega)]; rfl)
    refine jb_nil ?_
    refine jb_cons (js_if ?_)
    refine jt_not ?_
    refine jt_val ?_
    refine je_cB (cr_all c.calm) T.m_all PyProof.Rows.boot_all ?_
    refine ja_cons ?_
    refine je_lcG (x := "one") 2 c.calm c.nd (blkOk_by (N := ["bounds", "many", "one"]) (sc := defScope s_need_bounds) (by decide +kernel)) (fun _ _ _ _ _ => pg_name (i := 2) c.nd rfl (Or.inl rfl)) ?_
    refine ji_LTD hd ?_
    refine je_name 0 rfl rfl ?_
    refine ⟨rfl, rfl, fun s_ hs1 hok1 => ?_⟩
    refine lc_map (fun p : Dv × Option Bd => p.1) ps (fun p => some (.bl p.2.isSome)) (hs1.trans e1.symm) (hok1 _ (ExtM.refl _)) (by omega) (fun j x μ' hx hμ => ?_) ?_
    ·
      intro s1 H1 C1 cl1 fp1
      refine ⟨fun _ s2 H2 C2 cl2 fp2 => ?_, fun z => nomatch z⟩
      have hp2 := e3 x (List.mem_of_getElem? hx)
      refine je_cB call_isiA T.m_isinstance PyProof.Rows.boot_isinstance ?_
      refine ja_cons ?_
      refine je_name 2 rfl rfl ?_
      refine ja_cons ?_
      refine je_tup ?_
      refine ja_cons ?_
      refine je_glob T.g_Jar ?_
      refine ja_cons ?_
      refine je_glob T.g_Window ?_
      refine ja_nil ?_
      refine ⟨by walk_at "lens", ?_⟩
      refine ja_nil ?_
      refine d_isBth T hp2 ?_
      exact ⟨rfl, rfl⟩
    rw [fm_bl (fun p : Dv × Option Bd => p.2.isSome)]
    rw [show ps.map (fun p : Dv × Option Bd => p.2.isSome) = ys.map Option.isSome by rw [← e2, List.map_map]; rfl]
    refine ja_nil ?_
    refine d_all (.lst _) ?_
    rw [show (ys.map Option.isSome).all id = ys.all Option.isSome by rw [List.all_map]; rfl]
    refine ⟨_, rfl, ?_⟩
    refine ⟨fun h3 => ?_, fun h3 => ?_⟩
    ·
      refine jb_cons (js_raise c T.x_NoBound ?_)
      exact hk2 (by unfold goodBs; rw [show ys.all Option.isSome = false by simpa using ‹(!ys.all Option.isSome) = true›, Bool.and_false])
    refine jb_nil ?_
    exact jb_nil (hk1 (by unfold goodBs; rw [show ys.all Option.isSome = true by simpa using ‹(!ys.all Option.isSome) = false›, decide_eq_true (by have := of_decide_eq_false (show decide (m < (xs.length : Int)) = false by simpa using h2); omega)]; rfl))
theorem sc_is_whole : FnScope ["thing", "least", "most"] ["thing", "least", "most"] (defScope s_is_whole) := ⟨rfl, rfl, rfl, by decide +kernel, rfl, by decide +kernel, by decide +kernel⟩
theorem ok_is_whole {f : Addr} {fd : FuncData} (F : Fun K "is_whole" "is_whole" s_is_whole f fd) (T : Txt K mg A) : FnOk Pg w K mg base (L2.CX Pg w) 1 f fd ["thing", "least", "most"] (toSp K (S_is_whole A)) := by
  refine fn_data F sc_is_whole (fun ds μ kd ke h => ?_) (fun cdv A_ outer s H E c ow ds μ kd ke h => ?_)
  · obtain ⟨d, v, l, m, rfl, ht, hk⟩ := h; rfl
  · obtain ⟨d, v, l, m, rfl, ht, hk⟩ := h
    rcases v with _ | i
    ·
      refine jb_cons (js_ret ?_)
      refine je_andP (isIntD d) false ?_ ?_ (by rw [Bool.and_false]; exact hk)
      · refine je_cB call_isiA T.m_isinstance PyProof.Rows.boot_isinstance (ja_cons (je_name 0 rfl rfl (ja_cons (je_bty T.m_int PyProof.Rows.boot_int (ja_nil (d_isInt ht ⟨rfl, rfl⟩)))))) 
      intro h1
      have h2 : isBoolD d = true := by
        have := ht.odd
        rw [h1] at this
        simpa using this
      refine je_andP (!isBoolD d) false ?_ (fun z => by rw [h2] at z; cases z) ⟨by rw [Bool.and_false], rfl⟩
      refine je_not ?_
      refine je_cB call_isiA T.m_isinstance PyProof.Rows.boot_isinstance (ja_cons (je_name 0 rfl rfl (ja_cons (je_bty T.m_bool PyProof.Rows.boot_bool (ja_nil (d_isBool ht ⟨_, rfl, rfl, rfl⟩)))))) 
    ·
      obtain rfl := ht.num
      refine jb_cons (js_ret ?_)
      apply je_andP
      ·
        refine je_cB call_isiA T.m_isinstance PyProof.Rows.boot_isinstance ?_
        refine ja_cons ?_
        refine je_name 0 rfl rfl ?_
        refine ja_cons ?_
        refine je_bty T.m_int PyProof.Rows.boot_int ?_
        refine ja_nil ?_
        refine d_isi (.int _) (.ty _) (kit_ty (r := true) (by decide +kernel)) ?_
        exact ⟨rfl, rfl⟩
      ·
        intro h1
        apply je_andP
        ·
          refine je_not ?_
          refine je_cB call_isiA T.m_isinstance PyProof.Rows.boot_isinstance ?_
          refine ja_cons ?_
          refine je_name 0 rfl rfl ?_
          refine ja_cons ?_
          refine je_bty T.m_bool PyProof.Rows.boot_bool ?_
          refine ja_nil ?_
          refine d_isi (.int _) (.ty _) (kit_ty (r := false) (by decide +kernel)) ?_
          refine ⟨_, rfl, ?_⟩
          exact ⟨rfl, rfl⟩
        ·
          intro h2
          refine je_one ?_
          apply je_chainP op_le op_le
          · with_unfolding_all rfl
          ·
            refine je_name 1 rfl rfl ?_
            refine je_name 0 rfl rfl ?_
            refine d_cmpI ?_
            refine ⟨⟨rfl, rfl⟩, fun h3 => ?_⟩
            refine je_name 2 rfl rfl ?_
            refine d_cmpI ?_
            exact ⟨rfl, rfl⟩
          exact ⟨rfl, rfl⟩
        exact ⟨rfl, rfl⟩
      exact hk
theorem sc_need_moment : FnScope ["thing"] ["thing"] (defScope s_need_moment) := ⟨rfl, rfl, rfl, by decide +kernel, rfl, by decide +kernel, by decide +kernel⟩
theorem ok_need_moment {f : Addr} {fd : FuncData} (F : Fun K "need_moment" "need_moment" s_need_moment f fd) (T : Txt K mg A) (F_is_whole : DCal Pg w K mg base 1 "is_whole" (S_is_whole A) []) : FnOk Pg w K mg base (L2.CX Pg w) 2 f fd ["thing"] (toSp K (S_need_moment A)) := by
  refine fn_data F sc_need_moment (fun ds μ kd ke h => ?_) (fun cdv A_ outer s H E c ow ds μ kd ke h => ?_)
  · obtain ⟨d, v, rfl, ht, hk1, hk2⟩ := h; rfl
  · obtain ⟨d, v, rfl, ht, hk1, hk2⟩ := h
    refine jb_cons (js_if ?_)
    refine jt_not ?_
    refine jt_val ?_
    refine je_call c F_is_whole (by decide) ?_
    refine ja_cons ?_
    refine je_name 0 rfl rfl ?_
    refine ja_cons ?_
    refine je_int ?_
    refine ja_cons ?_
    refine je_glob T.g_MOST_MOMENT ?_
    refine ja_nil ?_
    refine ⟨_, _, _, _, rfl, ht, ?_⟩
    refine ⟨_, rfl, ?_⟩
    refine ⟨fun h1 => ?_, fun h1 => ?_⟩
    ·
      refine jb_cons (js_raise c T.x_NoMoment ?_)
      exact hk2 (by simpa using h1)
    refine jb_nil ?_
    exact jb_nil (hk1 (by simpa using h1))
theorem sc_need_cost : FnScope ["thing"] ["thing"] (defScope s_need_cost) := ⟨rfl, rfl, rfl, by decide +kernel, rfl, by decide +kernel, by decide +kernel⟩
theorem ok_need_cost {f : Addr} {fd : FuncData} (F : Fun K "need_cost" "need_cost" s_need_cost f fd) (T : Txt K mg A) (F_is_whole : DCal Pg w K mg base 1 "is_whole" (S_is_whole A) []) : FnOk Pg w K mg base (L2.CX Pg w) 2 f fd ["thing"] (toSp K (S_need_cost A)) := by
  refine fn_data F sc_need_cost (fun ds μ kd ke h => ?_) (fun cdv A_ outer s H E c ow ds μ kd ke h => ?_)
  · obtain ⟨d, v, rfl, ht, hk1, hk2⟩ := h; rfl
  · obtain ⟨d, v, rfl, ht, hk1, hk2⟩ := h
    refine jb_cons (js_if ?_)
    refine jt_not ?_
    refine jt_val ?_
    refine je_call c F_is_whole (by decide) ?_
    refine ja_cons ?_
    refine je_name 0 rfl rfl ?_
    refine ja_cons ?_
    refine je_int ?_
    refine ja_cons ?_
    refine je_glob T.g_MOST_COST ?_
    refine ja_nil ?_
    refine ⟨_, _, _, _, rfl, ht, ?_⟩
    refine ⟨_, rfl, ?_⟩
    refine ⟨fun h1 => ?_, fun h1 => ?_⟩
    ·
      refine jb_cons (js_raise c T.x_NoCost ?_)
      exact hk2 (by simpa using h1)
    refine jb_nil ?_
    exact jb_nil (hk1 (by simpa using h1))
theorem sc_need_name : FnScope ["thing", "sign"] ["thing"] (defScope s_need_name) := ⟨rfl, rfl, rfl, by decide +kernel, rfl, by decide +kernel, by decide +kernel⟩
theorem ok_need_name {f : Addr} {fd : FuncData} (F : Fun K "need_name" "need_name" s_need_name f fd) (T : Txt K mg A) : FnOk Pg w K mg base (L2.CX Pg w) 1 f fd ["thing"] (toSp K (S_need_name A)) := by
  refine fn_data F sc_need_name (fun ds μ kd ke h => ?_) (fun cdv A_ outer s H E c ow ds μ kd ke h => ?_)
  · obtain ⟨d, v, rfl, ht, hk1, hk2⟩ := h; rfl
  · obtain ⟨d, v, rfl, ht, hk1, hk2⟩ := h
    rcases v with _ | z
    ·
      refine jb_cons (js_if (jt_w ?_))
      refine jw_orP true true ?_ (fun z => nomatch z) ⟨fun _ => jb_cons (js_raise c T.x_NoName (hk2 rfl)), fun z => nomatch z⟩
      refine jt_not (jt_val ?_)
      refine je_cB call_isiA T.m_isinstance PyProof.Rows.boot_isinstance (ja_cons (je_name 0 rfl rfl (ja_cons (je_bty T.m_str PyProof.Rows.boot_str (ja_nil (d_isStr ht ⟨_, rfl, rfl, rfl⟩)))))) 
    ·
      obtain ⟨rfl, hz3⟩ := ht.eq
      have hsp := nameOk_split z
      refine jb_cons (js_if ?_)
      refine jt_w ?_
      apply jw_orP
      ·
        refine jt_not ?_
        refine jt_val ?_
        refine je_cB call_isiA T.m_isinstance PyProof.Rows.boot_isinstance ?_
        refine ja_cons ?_
        refine je_name 0 rfl rfl ?_
        refine ja_cons ?_
        refine je_bty T.m_str PyProof.Rows.boot_str ?_
        refine ja_nil ?_
        refine d_isi (.str _) (.ty _) (kit_ty (r := true) (by decide +kernel)) ?_
        refine ⟨_, rfl, ?_⟩
        exact ⟨rfl, rfl⟩
      ·
        intro h1
        refine jw_or1 ?_
        refine jt_not ?_
        apply jt_chainP op_le op_le
        · with_unfolding_all rfl
        ·
          refine je_int ?_
          refine je_cB call_lenA T.m_len PySem.boot_len ?_
          refine ja_cons ?_
          refine je_name 0 rfl rfl ?_
          refine ja_nil ?_
          refine d_lenS (Nat.le_of_lt hz3) ?_
          refine d_cmpI ?_
          refine ⟨⟨rfl, rfl⟩, fun h2 => ?_⟩
          refine je_glob T.g_MOST_LETTERS ?_
          refine d_cmpI ?_
          exact ⟨rfl, rfl⟩
        exact ⟨rfl, rfl⟩
      refine ⟨fun h3 => ?_, fun h3 => ?_⟩
      ·
        refine jb_cons (js_raise c T.x_NoName ?_)
        exact hk2 (by show nameOk z = false; rw [hsp, show (decide (1 ≤ (z.length : Int)) && decide ((z.length : Int) ≤ 8)) = false by simpa only [Bool.not_true, Bool.false_or, Bool.not_eq_true'] using h3]; rfl)
      refine jb_nil ?_
      refine jb_cons (js_if ?_)
      refine jt_not ?_
      refine jt_val ?_
      refine je_cB (cr_all c.calm) T.m_all PyProof.Rows.boot_all ?_
      refine ja_cons ?_
      refine je_lcG (x := "sign") 1 c.calm c.nd (blkOk_by (N := ["thing", "sign"]) (sc := defScope s_need_name) (by decide +kernel)) (fun _ _ _ _ _ => pg_name (i := 1) c.nd rfl (Or.inl rfl)) ?_
      refine ji_str ?_
      refine je_name 0 rfl rfl ?_
      refine ⟨_, rfl, ?_⟩
      refine lc_map (fun c => Dv.str ⟨#[c]⟩) z.cps.toList (fun c => some (.bl (decide (c ∈ letters.cps.toList)))) rfl trivial (by first | exact hz3 | walk_at "lens") (fun j x μ' hx hμ => ?_) ?_
      ·
        intro s1 H1 C1 cl1 fp1
        refine ⟨fun _ s2 H2 C2 cl2 fp2 => ?_, fun z => nomatch z⟩
        
        refine je_inS ?_
        refine je_name 1 rfl rfl ?_
        refine je_glob T.g_LETTERS ?_
        refine d_inS ?_
        exact ⟨rfl, rfl⟩
      rw [fm_bl (fun c => decide (c ∈ letters.cps.toList))]
      refine ja_nil ?_
      refine d_all (.lst _) ?_
      refine ⟨_, rfl, ?_⟩
      refine ⟨fun h4 => ?_, fun h4 => ?_⟩
      ·
        refine jb_cons (js_raise c T.x_NoName ?_)
        exact hk2 (by show nameOk z = false; rw [hsp, show (z.cps.toList.map fun c => decide (c ∈ letters.cps.toList)).all id = false by simpa only [Bool.not_eq_true'] using h4, Bool.and_false])
      refine jb_nil ?_
      exact jb_nil (hk1 (by show nameOk z = true; rw [hsp, show (z.cps.toList.map fun c => decide (c ∈ letters.cps.toList)).all id = true by simpa only [Bool.not_eq_false'] using h4, show (decide (1 ≤ (z.length : Int)) && decide ((z.length : Int) ≤ 8)) = true by simpa only [Bool.not_true, Bool.false_or, Bool.not_eq_false'] using h3]; rfl))
theorem sc_meters_of : FnScope ["bounds", "bound"] ["bounds"] (defScope s_meters_of) := ⟨rfl, rfl, rfl, by decide +kernel, rfl, by decide +kernel, by decide +kernel⟩
theorem ok_meters_of {f : Addr} {fd : FuncData} (F : Fun K "meters_of" "meters_of" s_meters_of f fd) (T : Txt K mg A) (M_Jar_meter : DMet Pg w K mg base 3 A.CJ "meter" (S_Jar_meter A) []) (M_Window_meter : DMet Pg w K mg base 3 A.CW "meter" (S_Window_meter A) []) : FnOk Pg w K mg base (L2.CX Pg w) 4 f fd ["bounds"] (toSp K (S_meters_of A)) := by
  refine fn_data F sc_meters_of (fun ds μ kd ke h => ?_) (fun cdv A_ outer s H E c ow ds μ kd ke h => ?_)
  · obtain ⟨bs, d_, rfl, hd, hl, hk⟩ := h; rfl
  · obtain ⟨bs, d_, rfl, hd, hl, hk⟩ := h
    refine jb_cons (js_ret ?_)
    refine je_lcG (x := "bound") 1 c.calm c.nd (blkOk_by (N := ["bounds", "bound"]) (sc := defScope s_meters_of) (by decide +kernel)) (fun _ _ _ _ _ => pg_name (i := 1) c.nd rfl (Or.inl rfl)) ?_
    refine ji_LTD hd ?_
    refine je_name 0 rfl rfl ?_
    refine ⟨rfl, rfl, fun s_ hs1 hok1 => ?_⟩
    refine lc_make (Bd.pv A) (fun b => Mt.mo A b.meter) bs hs1 (hok1 _ (ExtM.refl _)) (by rw [sizeLine_eq]; omega) (fun x μ' hx hμ => ?_) ?_
    ·
      intro s1 H1 C1 cl1 fp1
      refine ⟨fun _ s2 H2 C2 cl2 fp2 => ?_, fun z => nomatch z⟩
      
      refine je_bmeter c.blk M_Jar_meter M_Window_meter (by decide) ?_
      refine je_name 1 rfl rfl ?_
      refine ⟨x, rfl, fun a_ ha_ => ?_⟩
      
      exact ⟨a_, rfl, ha_, rfl⟩
    exact fun as μ' h1 h2 h3 h4 h5 => hk as μ' ⟨h1, h2, h3, h4, h5⟩
    
theorem sc_Gate_init : FnScope ["self", "own", "common"] ["self", "own", "common"] (defScope s_Gate_init) := ⟨rfl, rfl, rfl, by decide +kernel, rfl, by decide +kernel, by decide +kernel⟩
theorem ok_Gate_init {f : Addr} {fd : FuncData} (F : FunD K "__init__" "Gate.__init__" (defArgs s_Gate_init) (defBody s_Gate_init) (defScope s_Gate_init) [.non] [] f fd) (T : Txt K mg A) (F_need_bounds : DCal Pg w K mg base 1 "need_bounds" (S_need_bounds A) []) (F_meters_of : DCal Pg w K mg base 4 "meters_of" (S_meters_of A) []) : FnOk Pg w K mg base (L2.CX Pg w) 5 f fd ["self", "own", "common"] (toSp K (S_Gate_init A)) := by
  refine fn_dataD F sc_Gate_init (fun ds μ kd ke h => ?_) (fun cdv A_ outer s H E c ow ds μ kd ke h => ?_)
  · obtain ⟨g, d_, e_, xs, ws, ys, zs, rfl, hg, hd, he, a1, a2, ⟨lz1, lz2⟩, hk, hke⟩ := h; rfl
  · obtain ⟨g, d_, e_, xs, ws, ys, zs, rfl, hg, hd, he, a1, a2, ⟨lz1, lz2⟩, hk, hke⟩ := h
    refine jb_cons (js_expr ?_)
    refine je_call c F_need_bounds (by decide) ?_
    refine ja_cons ?_
    refine je_name 1 rfl rfl ?_
    refine ja_cons ?_
    refine je_glob T.g_MOST_BOUNDS_gate ?_
    refine ja_nil ?_
    refine ⟨_, _, _, _, rfl, by first | exact hd | exact he, by first | exact a1 | exact a2, by omega, fun gb => ?_, fun gb => hke (by simp [gb])⟩
    have gb1 := gb
    have hne : isNonD e_ = false := by cases he <;> rfl
    refine jb_cons (js_set 2 c rfl ?_)
    refine je_to (e_) ?_ ?_
    ·
      refine je_ite ?_
      refine jt_is ?_
      refine je_name 2 rfl rfl ?_
      refine je_non ?_
      refine d_isN ?_
      refine ⟨_, rfl, ?_⟩
      refine ⟨fun h1 => ?_, fun h1 => ?_⟩
      ·
        exfalso
        rw [hne] at h1
        exact absurd h1 (by decide)
      ·
        
        refine je_name 2 rfl rfl ?_
        exact ⟨rfl, rfl⟩
      
    refine jb_cons (js_expr ?_)
    refine je_call c F_need_bounds (by decide) ?_
    refine ja_cons ?_
    refine je_name 2 rfl rfl ?_
    refine ja_cons ?_
    refine je_glob T.g_MOST_BOUNDS_gate ?_
    refine ja_nil ?_
    refine ⟨_, _, _, _, rfl, by first | exact hd | exact he, by first | exact a1 | exact a2, by omega, fun gb => ?_, fun gb => hke (by simp [gb])⟩
    obtain ⟨f1, f2⟩ : _ ∧ _ := by rw [goodBs, Bool.and_eq_true] at gb1; exact gb1
    obtain ⟨f3, f4⟩ : _ ∧ _ := by rw [goodBs, Bool.and_eq_true] at gb; exact gb
    obtain ⟨own, rfl, rfl, hO⟩ := goodBs_bds a1 f2
    obtain ⟨common, rfl, rfl, hC⟩ := goodBs_bds a2 f4
    have lO : own.length ≤ 4 := by have := of_decide_eq_true f1; rw [List.length_map] at this; omega
    have lC : common.length ≤ 4 := by have := of_decide_eq_true f3; rw [List.length_map] at this; omega
    refine jb_cons (js_fld ?_)
    refine je_cT call_tuple_of T.m_tuple PyProof.Rows.boot_tuple ?_
    refine ja_cons ?_
    refine je_name 1 rfl rfl ?_
    refine ja_nil ?_
    refine d_tupLTD hd ?_
    refine je_name 0 rfl rfl ?_
    refine ⟨_, _, _, rfl, by first | assumption | exact updM_same | exact (updM_ne (ne_ofM updM_same ha_)).trans updM_same, T.cl_Gate, T.na_Gate_own, by walk_at "fl", ?_⟩
    have he2 := fun o => LTD.put (o := o) he hg
    refine jb_cons (js_fld ?_)
    refine je_call c F_meters_of (by decide) ?_
    refine ja_cons ?_
    refine je_name 2 rfl rfl ?_
    refine ja_nil ?_
    refine ⟨_, _, rfl, by first | assumption | exact he2 _ | exact .tup _ | exact .lst _, by first | assumption | exact G.lO, fun as1 μ1 new1 => ?_⟩
    try have hg7 := new1.1 _ _ updM_same
    refine je_name 0 rfl rfl ?_
    refine ⟨_, _, _, rfl, by first | assumption | exact updM_same | exact (updM_ne (ne_ofM updM_same ha_)).trans updM_same, T.cl_Gate, T.na_Gate_common, by walk_at "fl", ?_⟩
    refine jb_cons (js_fld ?_)
    refine je_dnew fun a_ ha_ => ?_
    refine je_name 0 rfl rfl ?_
    refine ⟨_, _, _, rfl, by first | assumption | exact updM_same | exact (updM_ne (ne_ofM updM_same ha_)).trans updM_same, T.cl_Gate, T.na_Gate_people, by walk_at "fl", ?_⟩
    refine jb_cons (js_fld ?_)
    refine je_int ?_
    refine je_name 0 rfl rfl ?_
    refine ⟨_, _, _, rfl, by first | assumption | exact updM_same | exact (updM_ne (ne_ofM updM_same ha_)).trans updM_same, T.cl_Gate, T.na_Gate_latest, by walk_at "fl", ?_⟩
    rw [gt_init]
    refine jb_nil (hk (by rw [gb1, gb]; rfl) _ _ _ (gate_new new1 hg ha_ hO hC lO lC).2 (gate_foot new1 ha_) ?_)
    rw [fm_some_id, fm_some_id]
    exact (gate_new new1 hg ha_ hO hC lO lC).1
theorem sc_Gate_meters_for : FnScope ["self", "name"] ["self", "name"] (defScope s_Gate_meters_for) := ⟨rfl, rfl, rfl, by decide +kernel, rfl, by decide +kernel, by decide +kernel⟩
theorem ok_Gate_meters_for {f : Addr} {fd : FuncData} (F : Fun K "meters_for" "Gate.meters_for" s_Gate_meters_for f fd) (T : Txt K mg A) (F_meters_of : DCal Pg w K mg base 4 "meters_of" (S_meters_of A) []) : FnOk Pg w K mg base (L2.CX Pg w) 5 f fd ["self", "name"] (toSp K (S_Gate_meters_for A)) := by
  refine fn_data F sc_Gate_meters_for (fun ds μ kd ke h => ?_) (fun cdv A_ outer s H E c ow ds μ kd ke h => ?_)
  · obtain ⟨self_, own, common, people, all, latest, pd, cas, pas, name, rfl, G, hl0, hk⟩ := h; rfl
  · obtain ⟨self_, own, common, people, all, latest, pd, cas, pas, name, rfl, G, hl0, hk⟩ := h
    have hg := G.obj
    refine jb_cons (js_ret ?_)
    refine je_ite ?_
    refine jt_din c ?_
    refine je_name 1 rfl rfl ?_
    refine je_fld ?_
    refine je_name 0 rfl rfl ?_
    refine ⟨_, _, _, by first | exact .ins _ _ | exact .obj (by first | assumption | exact updM_same | exact hμ _ _ (by assumption)), T.cl_Gate, T.na_Gate_people, gtF_people .., ?_⟩
    refine ⟨_, _, .inr name, rfl, .dic G.dic, rfl, ?_⟩
    refine ⟨fun h1 => ?_, fun h1 => ?_⟩
    ·
      refine je_dget c (fun _ _ => rfl) ?_
      refine je_fld ?_
      refine je_name 0 rfl rfl ?_
      refine ⟨_, _, _, by first | exact .ins _ _ | exact .obj (by first | assumption | exact updM_same | exact hμ _ _ (by assumption)), T.cl_Gate, T.na_Gate_people, gtF_people .., ?_⟩
      refine je_name 1 rfl rfl ?_
      obtain ⟨p, hp⟩ := Option.isSome_iff_exists.mp h1
      obtain ⟨q, hq, hq2⟩ := Option.map_eq_some_iff.mp ((valD_pas name pas).symm.trans hp)
      refine ⟨_, _, .inr name, _, rfl, .dic G.dic, rfl, hp, ?_⟩
      subst hq2
      obtain ⟨q2, hq3, hq4⟩ := ppl_some G.ppl hq
      obtain ⟨e1, last, l1, l2, l3, l4⟩ := hq4
      have em : mine people name = q2.2 := by unfold mine; rw [hq3]
      refine hk q.2 μ ⟨ExtM.refl _, ⟨last, l1, ?_, ?_, ?_⟩, .inl ⟨?_, rfl⟩⟩
      · rw [em]; exact l2
      · rw [em]; exact l3
      · rw [em]; exact l4
      · rw [hq]; obtain ⟨qa, qb⟩ := q; have := find_name hq; subst this; rfl
    ·
      refine je_call c F_meters_of (by decide) ?_
      refine ja_cons ?_
      refine je_fld ?_
      refine je_name 0 rfl rfl ?_
      refine ⟨_, _, _, by first | exact .ins _ _ | exact .obj (by first | assumption | exact updM_same | exact hμ _ _ (by assumption)), T.cl_Gate, T.na_Gate_own, gtF_own .., ?_⟩
      refine ja_nil ?_
      refine ⟨_, _, rfl, by first | assumption | exact he2 _ | exact .tup _ | exact .lst _, by first | assumption | exact G.lO, fun as1 μ1 new1 => ?_⟩
      try have hg7 := new1.1 _ _ updM_same
      have hn : pas.find? (fun p => decide (p.1 = name)) = none := by
        rw [valD_pas] at h1
        cases q : pas.find? (fun p => decide (p.1 = name)) with
        | none => rfl
        | some p => rw [q] at h1; cases h1
      have em : mine people name = [] := by unfold mine; rw [ppl_none G.ppl hn]
      obtain ⟨n1, n2, n3, n4, n5⟩ := new1
      refine hk as1 μ1 ⟨n1, ⟨0, hl0, ?_, ?_, ?_⟩, .inr ⟨hn, n4, n5⟩⟩
      · rw [em]
        exact all2_get n2 fun j a b e1 e2 => ⟨_, n3 j a b e1 e2, Tie.new (G.okO b (List.mem_of_getElem? e2))⟩
      · rw [em]; exact trivial
      · rw [em]; exact ⟨Nat.zero_le _, rfl⟩
theorem sc_Gate_ask : FnScope ["self", "name", "moment", "cost", "waits", "many", "shut", "wait", "meter", "k"] ["self", "name", "moment", "cost"] (defScope s_Gate_ask) := ⟨rfl, rfl, rfl, by decide +kernel, rfl, by decide +kernel, by decide +kernel⟩
theorem ok_Gate_ask {f : Addr} {fd : FuncData} (F : Fun K "ask" "Gate.ask" s_Gate_ask f fd) (T : Txt K mg A) (F_need_name : DCal Pg w K mg base 1 "need_name" (S_need_name A) []) (F_need_moment : DCal Pg w K mg base 2 "need_moment" (S_need_moment A) []) (F_need_cost : DCal Pg w K mg base 2 "need_cost" (S_need_cost A) []) (M_Gate_meters_for : DMet Pg w K mg base 5 A.CG "meters_for" (S_Gate_meters_for A) []) (M_JarMeter_wait : DMet Pg w K mg base 2 A.CJM "wait" (S_JarMeter_wait A) []) (M_WindowMeter_wait : DMet Pg w K mg base 1 A.CWM "wait" (S_WindowMeter_wait A) []) : FnOk Pg w K mg base (L2.CX Pg w) 6 f fd ["self", "name", "moment", "cost"] (toSp K (S_Gate_ask A)) := by
  refine fn_data F sc_Gate_ask (fun ds μ kd ke h => ?_) (fun cdv A_ outer s H E c ow ds μ kd ke h => ?_)
  · obtain ⟨self_, own, common, people, all, latest, pd, cas, pas, dn, dt, dc, vn, vt, vc, rfl, G, ⟨tn, tt, tc⟩, hke, hk⟩ := h; rfl
  · obtain ⟨self_, own, common, people, all, latest, pd, cas, pas, dn, dt, dc, vn, vt, vc, rfl, G, ⟨tn, tt, tc⟩, hke, hk⟩ := h
    have hg := G.obj
    have hl0 : 0 ≤ latest := G.l0
    obtain ⟨rn, rm, rl, rc, r0⟩ := Rf.some_of (latest := latest) (vn := vn) (vt := vt) (vc := vc)
    refine jb_cons (js_expr ?_)
    refine je_call c F_need_name (by decide) ?_
    refine ja_cons ?_
    refine je_name 1 rfl rfl ?_
    refine ja_nil ?_
    refine ⟨_, _, rfl, tn, fun gN => ?_, fun gN => hke .name (rn gN)⟩
    refine jb_cons (js_expr ?_)
    refine je_call c F_need_moment (by decide) ?_
    refine ja_cons ?_
    refine je_name 2 rfl rfl ?_
    refine ja_nil ?_
    refine ⟨_, _, rfl, tt, fun gM => ?_, fun gM => hke .moment (rm gN gM)⟩
    obtain ⟨moment, rfl, ht0, ht1⟩ := goodB_some gM
    obtain rfl := tt.num
    refine jb_cons (js_if ?_)
    refine jt_lt ?_
    refine je_name 2 rfl rfl ?_
    refine je_fld ?_
    refine je_name 0 rfl rfl ?_
    refine ⟨_, _, _, by first | exact .ins _ _ | exact .obj (by first | assumption | exact updM_same | exact hμ _ _ (by assumption)), T.cl_Gate, T.na_Gate_latest, gtF_latest .., ?_⟩
    refine d_cmpI ?_
    refine ⟨_, rfl, ?_⟩
    refine ⟨fun h1 => ?_, fun h1 => ?_⟩
    ·
      refine jb_cons (js_raise c T.x_Late ?_)
      exact hke .late (rl gN gM (of_decide_eq_true h1))
    refine jb_nil ?_
    refine jb_cons (js_expr ?_)
    refine je_call c F_need_cost (by decide) ?_
    refine ja_cons ?_
    refine je_name 3 rfl rfl ?_
    refine ja_nil ?_
    refine ⟨_, _, rfl, tc, fun gC => ?_, fun gC => hke .cost (rc gN gM (of_decide_eq_false h1) gC)⟩
    obtain ⟨cost, rfl, hc0, hc1⟩ := goodB_some gC
    obtain rfl := tc.num
    obtain ⟨name, rfl⟩ : ∃ z, vn = some z := by cases vn with
      | none => cases gN
      | some z => exact ⟨z, rfl⟩
    obtain rfl := tn.eq.1
    have hlt : latest ≤ moment := Int.not_lt.mp (of_decide_eq_false h1)
    replace hk := hk name moment cost (r0 gN gM (of_decide_eq_false h1) gC) rfl rfl rfl
    refine jb_cons (js_set 4 c rfl ?_)
    refine je_lcG (x := "meter") 8 c.calm c.nd (blkOk_by (N := ["self", "name", "moment", "cost", "waits", "many", "shut", "wait", "meter", "k"]) (sc := defScope s_Gate_ask) (by decide +kernel)) (fun _ _ _ _ _ => pg_name (i := 8) c.nd rfl (Or.inl rfl)) ?_
    refine ji_seq ?_
    refine je_meth c ?_
    refine je_name 0 rfl rfl ?_
    refine ⟨_, _, _, _, _, .obj G.obj, gtF_no _ _ _ _ _ (by decide +kernel) (by decide +kernel) (by decide +kernel) (by decide +kernel), M_Gate_meters_for, by decide, ?_⟩
    refine ja_cons ?_
    refine je_name 1 rfl rfl ?_
    refine ja_nil ?_
    refine ⟨_, _, _, _, _, _, _, _, _, _, rfl, G, hl0, fun as1 μ1 my => ?_⟩
    refine ⟨_, by walk_at "sq", ?_⟩
    obtain ⟨ex1, ⟨last1, l1, mt1, row1, len1⟩, alt1⟩ := my
    obtain ⟨ps1, e1, e2, e3⟩ := mt1.zip
    have G1 := G.ext ex1
    have hg1 := G1.obj
    have lps : ps1.length ≤ 4 := by have := congrArg List.length e2; rw [List.length_map] at this; rw [this]; exact G.lO
    refine lc_map (fun p : Addr × Bd => Dv.obj p.1) ps1 (fun p => some (opI (m_law_wait p.2 (mine people name) moment cost))) (by rw [← e1, List.map_map]; rfl) (.lst _) (by rw [sizeLine_eq]; omega) (fun j x μ' hx hμ => ?_) ?_
    ·
      intro s1 H1 C1 cl1 fp1
      refine ⟨fun _ s2 H2 C2 cl2 fp2 => ?_, fun z => nomatch z⟩
      obtain ⟨m_, hm_, tie_⟩ := e3 x (List.mem_of_getElem? hx)
      have okb := G.okO x.2 (e2 ▸ List.mem_map_of_mem (List.mem_of_getElem? hx))
      have hok_ := tie_.ok okb (by omega)
      refine je_wait c.blk M_JarMeter_wait M_WindowMeter_wait (by decide) (by decide) ?_
      refine je_name 8 rfl rfl ?_
      refine ⟨_, _, rfl, hμ _ _ hm_, ?_⟩
      refine ja_cons ?_
      refine je_name 2 rfl rfl ?_
      refine ja_cons ?_
      refine je_name 3 rfl rfl ?_
      refine ja_nil ?_
      refine ⟨_, _, rfl, hμ _ _ hm_, hok_, ?_⟩
      exact ⟨by rw [tie_.wait (by omega) okb row1], rfl⟩
    rw [fm_waits e2]
    refine jb_cons (js_set 5 c rfl ?_)
    refine je_cB call_lenA T.m_len PySem.boot_len ?_
    refine ja_cons ?_
    refine je_name 4 rfl rfl ?_
    refine ja_nil ?_
    first | refine d_lenM (by walk_at "sq") ?_ | refine d_lenL (by walk_at "sq") ?_ | refine d_lenT ?_ | refine d_lenS (by walk_at "lens") ?_
    rw [waitsOf_len]
    refine jb_cons (js_set 4 c rfl ?_)
    refine je_add ?_
    refine je_name 4 rfl rfl ?_
    refine je_lcG (x := "meter") 8 c.calm c.nd (blkOk_by (N := ["self", "name", "moment", "cost", "waits", "many", "shut", "wait", "meter", "k"]) (sc := defScope s_Gate_ask) (by decide +kernel)) (fun _ _ _ _ _ => pg_name (i := 8) c.nd rfl (Or.inl rfl)) ?_
    refine ji_seq ?_
    refine je_fld ?_
    refine je_name 0 rfl rfl ?_
    refine ⟨_, _, _, by first | exact .ins _ _ | exact .obj (by first | assumption | exact updM_same | exact hμ _ _ (by assumption)), T.cl_Gate, T.na_Gate_common, gtF_common .., ?_⟩
    refine ⟨_, by walk_at "sq", ?_⟩
    obtain ⟨ps2, e4, e5, e6⟩ := G1.com.zip
    have lps2 : ps2.length ≤ 4 := by have := congrArg List.length e5; rw [List.length_map] at this; rw [this]; exact G.lC
    refine lc_map (fun p : Addr × Bd => Dv.obj p.1) ps2 (fun p => some (opI (m_law_wait p.2 all moment cost))) (by rw [← e4, List.map_map]; rfl) (.lst _) (by rw [sizeLine_eq]; omega) (fun j x μ' hx hμ => ?_) ?_
    ·
      intro s1 H1 C1 cl1 fp1
      refine ⟨fun _ s2 H2 C2 cl2 fp2 => ?_, fun z => nomatch z⟩
      obtain ⟨m_, hm_, tie_⟩ := e6 x (List.mem_of_getElem? hx)
      have okb := G.okC x.2 (e5 ▸ List.mem_map_of_mem (List.mem_of_getElem? hx))
      have hok_ := tie_.ok okb (Nat.le_trans G.len (by decide))
      refine je_wait c.blk M_JarMeter_wait M_WindowMeter_wait (by decide) (by decide) ?_
      refine je_name 8 rfl rfl ?_
      refine ⟨_, _, rfl, hμ _ _ hm_, ?_⟩
      refine ja_cons ?_
      refine je_name 2 rfl rfl ?_
      refine ja_cons ?_
      refine je_name 3 rfl rfl ?_
      refine ja_nil ?_
      refine ⟨_, _, rfl, hμ _ _ hm_, hok_, ?_⟩
      exact ⟨by rw [tie_.wait (by omega) okb G.row], rfl⟩
    rw [fm_waits e5]
    refine d_addL (.lst _) (.lst _) (by have := G.lO; have := G.lC; simp only [List.length_append, List.length_map, waitsOf_len, sizeLine_eq]; omega) ?_
    rw [← List.map_append]
    have lW : (waitsOf own (mine people name) moment cost ++ waitsOf common all moment cost).length ≤ 8 := by have := G.lO; have := G.lC; rw [List.length_append, waitsOf_len, waitsOf_len]; omega
    have hk2 := hk μ1 ex1
    unfold ask at hk2
    generalize waitsOf own (mine people name) moment cost ++ waitsOf common all moment cost = W at *
    refine jb_cons (js_setLcG (x := "k") 9 6 c.calm c.nd rfl rfl (sw_true rfl rfl rfl (by decide +kernel)) (blkOk_by (N := ["self", "name", "moment", "cost", "waits", "many", "shut", "wait", "meter", "k"]) (sc := defScope s_Gate_ask) (by decide +kernel)) (fun _ _ _ _ _ => pg_name (i := 9) c.nd rfl (Or.inl rfl)) ?_)
    refine ji_range1 T.m_range ?_
    refine ja_cons ?_
    refine je_cB call_lenA T.m_len PySem.boot_len ?_
    refine ja_cons ?_
    refine je_name 4 rfl rfl ?_
    refine ja_nil ?_
    first | refine d_lenM (by walk_at "sq") ?_ | refine d_lenL (by walk_at "sq") ?_ | refine d_lenT ?_ | refine d_lenS (by walk_at "lens") ?_
    refine ja_nil ?_
    refine ⟨_, rfl, by omega, by omega, ?_⟩
    refine lc_map (fun i : Nat => Dv.int (0 + (i : Int))) (List.range W.length) (fun i : Nat => if W.getD i none ≠ some 0 then some (Dv.int (i : Int)) else none) rfl trivial (by rw [sizeLine_eq, List.length_range]; omega) (fun j x μ' hx hμ => ?_) ?_
    ·
      intro s1 H1 C1 cl1 fp1
      refine jt_ne c.blk ?_
      refine je_ix ?_
      refine je_name 4 rfl rfl ?_
      refine je_name 9 rfl rfl ?_
      have hxl : x < W.length := by have := List.mem_of_getElem? hx; simpa using this
      refine d_ixMap opI W none (.lst _) (by omega) (by omega) ?_
      rw [show (0 + (x : Int)).toNat = x by omega]
      refine je_int ?_
      refine d_neOp _ ?_
      refine ⟨_, rfl, ?_⟩
      refine ⟨fun h2 s2 H2 C2 cl2 fp2 => ?_, fun h2 => ⟨(if_neg (not_not_intro (by simpa using h2))).symm, rfl⟩⟩
      refine je_name 9 rfl rfl ?_
      exact ⟨by rw [if_pos (show W.getD x none ≠ some 0 by simpa using ‹(!decide (W.getD x none = some 0)) = true›), Int.zero_add], rfl⟩
    rw [fm_shut]
    refine jb_cons (js_if ?_)
    refine jt_eq c ?_
    refine je_name 6 rfl rfl ?_
    refine (je_lst ?_ : _)
    refine ja_nil ?_
    refine ⟨by walk_at "lens", ?_⟩
    refine d_eqNil Enc.int (by decide) _ (.inl rfl) ?_
    refine ⟨_, rfl, ?_⟩
    refine ⟨fun h3 => ?_, fun h3 => ?_⟩
    ·
      refine jb_cons (js_ret ?_)
      refine je_tup ?_
      refine ja_cons ?_
      refine je_str ?_
      refine ja_nil ?_
      refine ⟨by walk_at "lens", ?_⟩
      have e := List.map_eq_nil_iff.mp (of_decide_eq_true h3)
      unfold ansOf at hk2
      rw [e] at hk2
      exact hk2
    refine jb_nil ?_
    obtain ⟨k0, r0, hs0⟩ : ∃ k0 r0, shutL W = k0 :: r0 := by
      cases q : shutL W with
      | nil => rw [q] at h3; exact absurd h3 (by simp)
      | cons a b => exact ⟨a, b, rfl⟩
    rw [hs0]
    unfold ansOf at hk2
    rw [hs0] at hk2
    replace hk2 : kd (if k0 < own.length then Ans.shut true k0 (waitOf W) else Ans.shut false (k0 - own.length) (waitOf W)).dv μ1 := hk2
    refine jb_cons (js_set 7 c rfl ?_)
    refine je_to (opI (waitOf W)) ?_ ?_
    ·
      refine je_ite ?_
      refine jt_in c ?_
      refine je_non ?_
      refine je_name 4 rfl rfl ?_
      refine d_inE Enc.opt (by decide) (x := none) (xs := W) rfl (by rw [optdv]) ?_
      refine ⟨_, rfl, ?_⟩
      refine ⟨fun h4 => ?_, fun h4 => ?_⟩
      ·
        
        refine je_non ?_
        exact ⟨by unfold waitOf; rw [if_pos (by simpa using h4)]; rfl, rfl⟩
      ·
        
        refine je_cB (cr_max c.calm) T.m_max PyProof.Rows.boot_max ?_
        refine ja_cons ?_
        refine je_name 4 rfl rfl ?_
        refine ja_nil ?_
        have hnn : none ∉ W := by simpa using h4
        refine d_maxL (ns := nums W) (by rw [nums_eq hnn]; exact .lst _) (by rw [nums_len hnn]; exact List.length_pos_iff.mpr (shut_ne (by rw [hs0]; simp))) fun m hm1 hm2 => ?_
        exact ⟨by unfold waitOf; rw [if_neg hnn, maxL_uniq hm1 hm2]; rfl, rfl⟩
      
    refine jb_cons (js_if ?_)
    refine jt_lt ?_
    refine je_ix ?_
    refine je_name 6 rfl rfl ?_
    refine je_int ?_
    refine d_ixL (.lst _) (d := .int (k0 : Int)) (by rw [at_getD (.int 0) (by omega) (by simp)]; rfl) ?_
    refine je_name 5 rfl rfl ?_
    refine d_cmpI ?_
    refine ⟨_, rfl, ?_⟩
    refine ⟨fun h5 => ?_, fun h5 => ?_⟩
    ·
      refine jb_cons (js_ret ?_)
      refine je_tup ?_
      refine ja_cons ?_
      refine je_str ?_
      refine ja_cons ?_
      refine je_str ?_
      refine ja_cons ?_
      refine je_ix ?_
      refine je_name 6 rfl rfl ?_
      refine je_int ?_
      refine d_ixL (.lst _) (d := .int (k0 : Int)) (by rw [at_getD (.int 0) (by omega) (by simp)]; rfl) ?_
      refine ja_cons ?_
      refine je_name 7 rfl rfl ?_
      refine ja_nil ?_
      refine ⟨by walk_at "lens", ?_⟩
      rw [if_pos (by have := of_decide_eq_true h5; omega)] at hk2
      exact hk2
    refine jb_nil ?_
    refine jb_cons (js_ret ?_)
    refine je_tup ?_
    refine ja_cons ?_
    refine je_str ?_
    refine ja_cons ?_
    refine je_str ?_
    refine ja_cons ?_
    refine je_sub ?_
    refine je_ix ?_
    refine je_name 6 rfl rfl ?_
    refine je_int ?_
    refine d_ixL (.lst _) (d := .int (k0 : Int)) (by rw [at_getD (.int 0) (by omega) (by simp)]; rfl) ?_
    refine je_name 5 rfl rfl ?_
    refine d_subI ?_
    refine ja_cons ?_
    refine je_name 7 rfl rfl ?_
    refine ja_nil ?_
    refine ⟨by walk_at "lens", ?_⟩
    have h5' := of_decide_eq_false h5
    rw [if_neg (by omega)] at hk2
    rw [show ((k0 : Int) - (own.length : Int)) = ((k0 - own.length : Nat) : Int) by omega]
    exact hk2
theorem sc_Gate_visit : FnScope ["self", "name", "moment", "cost", "found", "meter"] ["self", "name", "moment", "cost"] (defScope s_Gate_visit) := ⟨rfl, rfl, rfl, by decide +kernel, rfl, by decide +kernel, by decide +kernel⟩
theorem ok_Gate_visit {f : Addr} {fd : FuncData} (F : Fun K "visit" "Gate.visit" s_Gate_visit f fd) (T : Txt K mg A) (M_Gate_ask : DMet Pg w K mg base 6 A.CG "ask" (S_Gate_ask A) []) (M_Gate_meters_for : DMet Pg w K mg base 5 A.CG "meters_for" (S_Gate_meters_for A) []) (M_JarMeter_take : DMet Pg w K mg base 2 A.CJM "take" (S_JarMeter_take A) []) (M_WindowMeter_take : DMet Pg w K mg base 1 A.CWM "take" (S_WindowMeter_take A) []) : FnOk Pg w K mg base (L2.CX Pg w) 7 f fd ["self", "name", "moment", "cost"] (toSp K (S_Gate_visit A)) := by
  refine fn_data F sc_Gate_visit (fun ds μ kd ke h => ?_) (fun cdv A_ outer s H E c ow ds μ kd ke h => ?_)
  · obtain ⟨self_, own, common, people, all, latest, pd, cas, pas, dn, dt, dc, vn, vt, vc, rfl, G, ⟨tn, tt, tc⟩, hln0, hke, hk⟩ := h; rfl
  · obtain ⟨self_, own, common, people, all, latest, pd, cas, pas, dn, dt, dc, vn, vt, vc, rfl, G, ⟨tn, tt, tc⟩, hln0, hke, hk⟩ := h
    refine jb_cons (js_set 4 c rfl ?_)
    refine je_meth c ?_
    refine je_name 0 rfl rfl ?_
    refine ⟨_, _, _, _, _, .obj G.obj, gtF_no _ _ _ _ _ (by decide +kernel) (by decide +kernel) (by decide +kernel) (by decide +kernel), M_Gate_ask, by decide, ?_⟩
    refine ja_cons ?_
    refine je_name 1 rfl rfl ?_
    refine ja_cons ?_
    refine je_name 2 rfl rfl ?_
    refine ja_cons ?_
    refine je_name 3 rfl rfl ?_
    refine ja_nil ?_
    refine ⟨_, _, _, _, _, _, _, _, _, _, _, _, _, _, _, rfl, G, ⟨tn, tt, tc⟩, hke, fun name moment cost hr q1 q2 q3 μ1 ex1 => ?_⟩
    subst q1 q2 q3
    obtain rfl := tn.eq.1
    obtain rfl := tt.num
    obtain rfl := tc.num
    obtain ⟨_, _, _, q1, q2, q3, hnm⟩ := refu_none hr
    cases q1
    cases q2
    cases q3
    obtain ⟨hk1, hk2⟩ := hk _ _ _ hr rfl rfl rfl
    have hln : all.length ≤ 999 ∧ (mine people name).length ≤ 999 ∧ pas.length ≤ 900 := ⟨hln0.1, mine_len hln0.2.1 _, hln0.2.2⟩
    have G1 := G.ext ex1
    refine jb_cons (js_if ?_)
    refine jt_eq c ?_
    refine je_name 4 rfl rfl ?_
    refine je_tup ?_
    refine ja_cons ?_
    refine je_str ?_
    refine ja_nil ?_
    refine ⟨by walk_at "lens", ?_⟩
    refine d_eqE Enc.ans (by decide) (x := ask own common people all name moment cost) (y := .opn) rfl rfl ?_
    refine ⟨_, rfl, ?_⟩
    refine ⟨fun h1 => ?_, fun h1 => ?_⟩
    ·
      refine jb_cons (js_dput c ?_)
      refine je_meth c ?_
      refine je_name 0 rfl rfl ?_
      refine ⟨_, _, _, _, _, .obj G1.obj, gtF_no _ _ _ _ _ (by decide +kernel) (by decide +kernel) (by decide +kernel) (by decide +kernel), M_Gate_meters_for, by decide, ?_⟩
      refine ja_cons ?_
      refine je_name 1 rfl rfl ?_
      refine ja_nil ?_
      refine ⟨_, _, _, _, _, _, _, _, _, _, rfl, G1, G1.l0, fun as1 μ2 my => ?_⟩
      have G2 := G1.ext my.1
      have hg2 := G2.obj
      obtain ⟨nd, f1, f2, f3, f4, f5, f6⟩ := my_facts G1 my
      have q1 := G.lO
      have q2 := G.lC
      refine je_fld ?_
      refine je_name 0 rfl rfl ?_
      refine ⟨_, _, _, by first | exact .ins _ _ | exact .obj (by first | assumption | exact updM_same | exact hμ _ _ (by assumption)), T.cl_Gate, T.na_Gate_people, gtF_people .., ?_⟩
      refine je_name 1 rfl rfl ?_
      refine ⟨_, _, .inr name, rfl, G2.dic, rfl, by rw [pasD_len, sizeLine_eq]; omega, ?_⟩
      rw [putA_D]
      have hg3 : (updM μ2 pd (.dic (pasD (putA pas name as1)))) self_ = some (.ins A.CG (gtF A own cas pd latest)) := (updM_ne f3).trans hg2
      refine jb_cons (js_forT 5 c.calm ow (pg_name (i := 5) c.nd rfl (by first | exact Or.inl rfl | exact Or.inr rfl)) ?_)
      refine ji_seq ?_
      refine je_add ?_
      refine je_dget c (fun _ _ => rfl) ?_
      refine je_fld ?_
      refine je_name 0 rfl rfl ?_
      refine ⟨_, _, _, by first | exact .ins _ _ | exact .obj (by first | assumption | exact updM_same | exact hμ _ _ (by assumption)), T.cl_Gate, T.na_Gate_people, gtF_people .., ?_⟩
      refine je_name 1 rfl rfl ?_
      refine ⟨_, _, .inr name, _, rfl, .dic updM_same, rfl, valD_putA, ?_⟩
      refine je_fld ?_
      refine je_name 0 rfl rfl ?_
      refine ⟨_, _, _, by first | exact .ins _ _ | exact .obj (by first | assumption | exact updM_same | exact hμ _ _ (by assumption)), T.cl_Gate, T.na_Gate_common, gtF_common .., ?_⟩
      refine d_addL (.lst _) (.lst _) (by simp only [List.length_append, List.length_map, sizeLine_eq]; omega) ?_
      rw [← List.map_append]
      refine ⟨_, by walk_at "sq", ?_⟩
      refine ⟨fun j e μ' => e = [some (.obj self_), some (.str name), some (.int moment), some (.int cost), some (ask own common people all name moment cost).dv, none] ∧ TakeAll A (updM μ2 pd (.dic (pasD (putA pas name as1)))) μ' ((as1 ++ cas).take j) moment cost, ?_, fun _ _ _ _ => .lst _, fun j x e μ' hx iv => ?_, fun e μ' iv n' hle => ?_⟩
      · exact ⟨_, LeE.refl _, rfl, TakeAll.nil⟩
      ·
        obtain ⟨rfl, TA⟩ := iv
        obtain ⟨a_, ha_, rfl⟩ := map_item (f := Dv.obj) hx
        have hmem := List.mem_of_getElem? ha_
        obtain ⟨m_, hm1, hok⟩ := f6 a_ hmem
        have hnp : a_ ≠ pd := fun z => f2 (z ▸ hmem)
        have hjl := (List.getElem?_eq_some_iff.mp ha_).1
        have hnt : a_ ∉ (as1 ++ cas).take j := nodup_take nd ha_
        have hm0 : (updM μ2 pd (.dic (pasD (putA pas name as1)))) a_ = some (Mt.mo A m_) := (updM_ne hnp).trans hm1
        have hm2 := (TA.1 a_ hnt).trans hm0
        refine jb_cons (js_expr ?_)
        refine je_take c M_JarMeter_take M_WindowMeter_take (by decide) (by decide) ?_
        refine je_name 5 rfl rfl ?_
        refine ⟨a_, m_, rfl, hm2, ?_⟩
        refine ja_cons ?_
        refine je_name 2 rfl rfl ?_
        refine ja_cons ?_
        refine je_name 3 rfl rfl ?_
        refine ja_nil ?_
        refine ⟨_, _, rfl, hm2, hok, ?_⟩
        refine jb_nil ?_
        refine ⟨_, ?_, rfl, ?_⟩
        · walk_at "le"
        · rw [take_succ_get ha_]; exact TA.step hnt hm0
      obtain ⟨rfl, TA⟩ := iv
      refine JB.le ?_ hle
      rw [show (Src.seq (.lst ((as1 ++ cas).map Dv.obj)) ((as1 ++ cas).map Dv.obj)).items.length = (as1 ++ cas).length from List.length_map .., List.take_length] at TA
      have hgS : self_ ∉ as1 ++ cas := fun z => (List.mem_append.mp z).elim f1 G.gc
      have hg4 := (TA.1 self_ hgS).trans hg3
      refine jb_cons (js_fld ?_)
      refine je_name 2 rfl rfl ?_
      refine je_name 0 rfl rfl ?_
      refine ⟨_, _, _, rfl, by first | assumption | exact updM_same | exact (updM_ne (ne_ofM updM_same ha_)).trans updM_same, T.cl_Gate, T.na_Gate_latest, by walk_at "fl", ?_⟩
      rw [gt_latest]
      have ho := of_decide_eq_true h1
      rw [ho] at hk2 ⊢
      refine jb_nil (jb_cons (js_ret (je_name 4 rfl rfl ?_)))
      refine hk2 rfl _ (putA pas name as1) (GateAt.visit G1 my hnm.2.1 (by omega) ⟨hln.1, hln.2.1⟩ TA f1 f2 f3) (putA_len _ _ _) (fun b o hb n1 n2 n3 n4 => ?_) (fun b hb => putA_foot (μ1 := μ1) hb (my.2.2.imp (fun z => z.1) fun z a ha => ext_none ex1 (z.2.2 a ha)))
      have hb1 := ex1 b o hb
      have hb2 := my.1 b o hb1
      have nb : b ∉ as1 := by
        intro z
        rcases my.2.2 with ⟨hf, _⟩ | ⟨_, _, hf⟩
        · exact n4 _ (List.mem_of_find?_eq_some hf) z
        · have := hf b z
          rw [hb1] at this
          cases this
      rw [updM_ne n1, TA.1 b (fun z => (List.mem_append.mp z).elim nb n3), updM_ne n2]
      exact hb2
    refine jb_nil ?_
    refine jb_cons (js_ret ?_)
    refine je_name 4 rfl rfl ?_
    exact hk1 (of_decide_eq_false h1) μ1 ex1
theorem sc_Gate_names : FnScope ["self"] ["self"] (defScope s_Gate_names) := ⟨rfl, rfl, rfl, by decide +kernel, rfl, by decide +kernel, by decide +kernel⟩
theorem ok_Gate_names {f : Addr} {fd : FuncData} (F : Fun K "names" "Gate.names" s_Gate_names f fd) (T : Txt K mg A) : FnOk Pg w K mg base (L2.CX Pg w) 1 f fd ["self"] (toSp K (S_Gate_names A)) := by
  refine fn_data F sc_Gate_names (fun ds μ kd ke h => ?_) (fun cdv A_ outer s H E c ow ds μ kd ke h => ?_)
  · obtain ⟨self_, own, common, people, all, latest, pd, cas, pas, rfl, G, h64, hk⟩ := h; rfl
  · obtain ⟨self_, own, common, people, all, latest, pd, cas, pas, rfl, G, h64, hk⟩ := h
    have hg := G.obj
    refine jb_cons (js_ret ?_)
    refine je_cB (r := rSortedDD) (call_sortedD c.calm) T.m_sorted PyProof.Rows.boot_sorted ?_
    refine ja_cons ?_
    refine je_fld ?_
    refine je_name 0 rfl rfl ?_
    refine ⟨_, _, _, by first | exact .ins _ _ | exact .obj (by first | assumption | exact updM_same | exact hμ _ _ (by assumption)), T.cl_Gate, T.na_Gate_people, gtF_people .., ?_⟩
    refine ja_nil ?_
    refine d_sortedDM (.dic G.dic) (ppl_keys G.ppl) (by rw [List.length_map, ← G.ppl.length]; exact h64) fun ys p e1 e2 e3 => ?_
    exact hk ys p e1 e2 e3
theorem sc_Gate_kept : FnScope ["self", "found", "name", "meter"] ["self"] (defScope s_Gate_kept) := ⟨rfl, rfl, rfl, by decide +kernel, rfl, by decide +kernel, by decide +kernel⟩
theorem ok_Gate_kept {f : Addr} {fd : FuncData} (F : Fun K "kept" "Gate.kept" s_Gate_kept f fd) (T : Txt K mg A) (M_JarMeter_kept : DMet Pg w K mg base 1 A.CJM "kept" (S_Meter_kept A) []) (M_WindowMeter_kept : DMet Pg w K mg base 1 A.CWM "kept" (S_WindowMeter_kept A) []) : FnOk Pg w K mg base (L2.CX Pg w) 2 f fd ["self"] (toSp K (S_Gate_kept A)) := by
  refine fn_data F sc_Gate_kept (fun ds μ kd ke h => ?_) (fun cdv A_ outer s H E c ow ds μ kd ke h => ?_)
  · obtain ⟨self_, own, common, people, all, latest, pd, cas, pas, rfl, G, hk⟩ := h; rfl
  · obtain ⟨self_, own, common, people, all, latest, pd, cas, pas, rfl, G, hk⟩ := h
    have hg := G.obj
    have hgd : self_ ≠ pd := fun z => by
      have := G.obj
      rw [z, G.dic] at this
      cases this
    have hg5 : (updM μ pd (.fdc (pasD pas))) self_ = some (.ins A.CG (gtF A own cas pd latest)) := (updM_ne hgd).trans G.obj
    refine jb_cons (js_set 1 c rfl ?_)
    refine je_cB (cr_sum c.calm) T.m_sum PyProof.Rows.boot_sum ?_
    refine ja_cons ?_
    refine je_lcG (x := "meter") 3 c.calm c.nd (blkOk_by (N := ["self", "found", "name", "meter"]) (sc := defScope s_Gate_kept) (by decide +kernel)) (fun _ _ _ _ _ => pg_name (i := 3) c.nd rfl (Or.inl rfl)) ?_
    refine ji_seq ?_
    refine je_fld ?_
    refine je_name 0 rfl rfl ?_
    refine ⟨_, _, _, by first | exact .ins _ _ | exact .obj (by first | assumption | exact updM_same | exact hμ _ _ (by assumption)), T.cl_Gate, T.na_Gate_common, gtF_common .., ?_⟩
    refine ⟨_, by walk_at "sq", ?_⟩
    obtain ⟨ps2, e4, e5, e6⟩ := G.com.zip
    have lps2 : ps2.length ≤ 4 := by have := congrArg List.length e5; rw [List.length_map] at this; rw [this]; exact G.lC
    refine lc_map (fun p : Addr × Bd => Dv.obj p.1) ps2 (fun p => some (.int (keptB p.2 latest all : Int))) (by rw [← e4, List.map_map]; rfl) (.lst _) (by rw [sizeLine_eq]; omega) (fun j x μ' hx hμ => ?_) ?_
    ·
      intro s1 H1 C1 cl1 fp1
      refine ⟨fun _ s2 H2 C2 cl2 fp2 => ?_, fun z => nomatch z⟩
      obtain ⟨m_, hm_, tie_⟩ := e6 x (List.mem_of_getElem? hx)
      have okb := G.okC x.2 (e5 ▸ List.mem_map_of_mem (List.mem_of_getElem? hx))
      have hok_ := tie_.ok okb (by have := G.len; omega)
      refine je_kept c.blk M_JarMeter_kept M_WindowMeter_kept (by decide) (by decide) ?_
      refine je_name 3 rfl rfl ?_
      refine ⟨_, _, rfl, hμ _ _ hm_, hok_, ?_⟩
      
      exact ⟨by rw [keptB_eq tie_], rfl⟩
    rw [fm_kept e5]
    refine ja_nil ?_
    refine d_sum (.lst _) ?_
    refine jb_cons (js_lock (G.dic) (js_forT 2 c.calm ow (pg_name (i := 2) c.nd rfl (by first | exact Or.inl rfl | exact Or.inr rfl)) ?_))
    refine ji_keys ?_
    refine je_fld ?_
    refine je_name 0 rfl rfl ?_
    refine ⟨_, _, _, by first | exact .ins _ _ | exact .obj (by first | assumption | exact updM_same | exact hμ _ _ (by assumption)), T.cl_Gate, T.na_Gate_people, gtF_people .., ?_⟩
    refine ⟨_, _, rfl, updM_same, ?_⟩
    refine ⟨fun j e μ' => e = [some (.obj self_), some (.int ((common.map fun b => (keptB b latest all : Int)).sum + ((people.take j).map fun q => keptP own q.2).sum)), none, none] ∧ μ' = updM μ pd (.fdc (pasD pas)), ?_, fun j e μ' iv => ⟨_, by rw [iv.2]; exact updM_same, rfl⟩, fun j x e μ' hx iv => ?_, fun e μ' iv n' hle => ?_⟩
    · refine ⟨_, LeE.refl _, ?_, rfl⟩
      rw [List.take_zero, List.map_nil, List.sum_nil, Int.add_zero]
      rfl
    ·
      obtain ⟨rfl, rfl⟩ := iv
      obtain ⟨k_, hk_, rfl⟩ := map_item (f := keyD) hx
      obtain ⟨p, hp, rfl⟩ : ∃ p, pas[j]? = some p ∧ k_ = .inr p.1 := by
        unfold pasD at hk_
        rw [List.getElem?_map, List.getElem?_map] at hk_
        cases e : pas[j]? with
        | none => rw [e] at hk_; cases hk_
        | some p => rw [e] at hk_; cases hk_; exact ⟨p, rfl, rfl⟩
      have hpm := List.mem_of_getElem? hp
      obtain ⟨q, hq, _, last, l1, mt0, row1, l4, rfl⟩ := G.ppl.get hp
      have mt1 : MetsT A (updM μ pd (.fdc (pasD pas))) (lastOf q.2) q.2 p.2 own := mt0.off fun a ha => updM_ne fun z => by
        obtain ⟨m, hm⟩ := mt0.at ha
        rw [z, G.dic] at hm
        cases m <;> cases hm
      refine jb_cons (js_augI 1 c rfl ip_add rfl ?_)
      refine je_cB (cr_sum c.calm) T.m_sum PyProof.Rows.boot_sum ?_
      refine ja_cons ?_
      refine je_lcG (x := "meter") 3 c.calm c.nd (blkOk_by (N := ["self", "found", "name", "meter"]) (sc := defScope s_Gate_kept) (by decide +kernel)) (fun _ _ _ _ _ => pg_name (i := 3) c.nd rfl (Or.inl rfl)) ?_
      refine ji_seq ?_
      refine je_dget c (fun _ _ => rfl) ?_
      refine je_fld ?_
      refine je_name 0 rfl rfl ?_
      refine ⟨_, _, _, by first | exact .ins _ _ | exact .obj (by first | assumption | exact updM_same | exact hμ _ _ (by assumption)), T.cl_Gate, T.na_Gate_people, gtF_people .., ?_⟩
      refine je_name 2 rfl rfl ?_
      refine ⟨_, _, .inr p.1, _, rfl, .fdc updM_same, rfl, by rw [valD_pas, find_at G.kn hpm]; rfl, ?_⟩
      refine ⟨_, by walk_at "sq", ?_⟩
      obtain ⟨ps1, e1, e2, e3⟩ := mt1.zip
      have lps1 : ps1.length ≤ 4 := by have := congrArg List.length e2; rw [List.length_map] at this; rw [this]; exact G.lO
      refine lc_map (fun p : Addr × Bd => Dv.obj p.1) ps1 (fun p => some (.int (keptB p.2 (lastOf q.2) q.2 : Int))) (by rw [← e1, List.map_map]; rfl) (.lst _) (by rw [sizeLine_eq]; omega) (fun j x μ' hx hμ => ?_) ?_
      ·
        intro s1 H1 C1 cl1 fp1
        refine ⟨fun _ s2 H2 C2 cl2 fp2 => ?_, fun z => nomatch z⟩
        obtain ⟨m_, hm_, tie_⟩ := e3 x (List.mem_of_getElem? hx)
        have okb := G.okO x.2 (e2 ▸ List.mem_map_of_mem (List.mem_of_getElem? hx))
        have hok_ := tie_.ok okb (by omega)
        refine je_kept c.blk M_JarMeter_kept M_WindowMeter_kept (by decide) (by decide) ?_
        refine je_name 3 rfl rfl ?_
        refine ⟨_, _, rfl, hμ _ _ hm_, hok_, ?_⟩
        
        exact ⟨by rw [keptB_eq tie_], rfl⟩
      rw [fm_kept e2]
      refine ja_nil ?_
      refine d_sum (.lst _) ?_
      refine ⟨_, rfl, ?_⟩
      refine jb_nil ?_
      refine ⟨_, ?_, rfl, rfl⟩
      rw [sum_take_succ (fun q : Str × Vs => keptP own q.2) hq, ← Int.add_assoc]
      walk_at "le"
    obtain ⟨rfl, rfl⟩ := iv
    refine JB.le ?_ hle
    rw [updM_updM, updM_id G.dic, show (Src.dky pd ((pasD pas).map (·.1))).items.length = people.length from by show (((pasD pas).map (·.1)).map keyD).length = _; rw [List.length_map, List.length_map, pasD_len, G.ppl.length], List.take_length]
    refine jb_cons (js_ret ?_)
    refine je_name 1 rfl rfl ?_
    unfold keptOf keptP at hk
    rw [← G.lt] at hk
    exact hk
theorem sc_name_of : FnScope ["error"] ["error"] (defScope s_name_of) := ⟨rfl, rfl, rfl, by decide +kernel, rfl, by decide +kernel, by decide +kernel⟩
theorem ok_name_of {f : Addr} {fd : FuncData} (F : Fun K "name_of" "name_of" s_name_of f fd) (T : Txt K mg A) : FnQ Pg w K mg base 1 f fd ["error"] (toSp K (S_name_of A)) := by
  refine fn_dataQ F sc_name_of (fun ds μ kd ke h => ?_) (fun cdv A_ outer s H ds μ kd ke h => ?_)
  · obtain ⟨r, rfl, hk⟩ := h; rfl
  · obtain ⟨r, rfl, hk⟩ := h
    rcases r with _ | _ | (_ | _ | _ | _)
    ·
      refine jb_cons (js_if ?_)
      refine jt_val ?_
      refine je_cB call_isX T.m_isinstance PyProof.Rows.boot_isinstance ?_
      refine ja_cons ?_
      refine je_name 0 rfl rfl ?_
      refine ja_cons ?_
      refine je_glob T.g_BadRow ?_
      refine ja_nil ?_
      refine d_isX T.xc_BadRow (.own _) T.kit_BadRow_BadRow ?_
      refine ⟨_, rfl, ?_⟩
      refine ⟨fun h1 => ?_, fun h1 => absurd h1 (by decide)⟩
      refine jb_cons (js_ret ?_)
      refine je_str ?_
      exact hk
    ·
      refine jb_cons (js_if ?_)
      refine jt_val ?_
      refine je_cB call_isX T.m_isinstance PyProof.Rows.boot_isinstance ?_
      refine ja_cons ?_
      refine je_name 0 rfl rfl ?_
      refine ja_cons ?_
      refine je_glob T.g_BadRow ?_
      refine ja_nil ?_
      refine d_isX T.xc_NoBound (.own _) T.kit_NoBound_BadRow ?_
      refine ⟨_, rfl, ?_⟩
      refine ⟨fun h1 => absurd h1 (by decide), fun h1 => ?_⟩
      refine jb_nil ?_
      refine jb_cons (js_if ?_)
      refine jt_val ?_
      refine je_cB call_isX T.m_isinstance PyProof.Rows.boot_isinstance ?_
      refine ja_cons ?_
      refine je_name 0 rfl rfl ?_
      refine ja_cons ?_
      refine je_glob T.g_NoBound ?_
      refine ja_nil ?_
      refine d_isX T.xc_NoBound (.own _) T.kit_NoBound_NoBound ?_
      refine ⟨_, rfl, ?_⟩
      refine ⟨fun h2 => ?_, fun h2 => absurd h2 (by decide)⟩
      refine jb_cons (js_ret ?_)
      refine je_str ?_
      exact hk
    ·
      refine jb_cons (js_if ?_)
      refine jt_val ?_
      refine je_cB call_isX T.m_isinstance PyProof.Rows.boot_isinstance ?_
      refine ja_cons ?_
      refine je_name 0 rfl rfl ?_
      refine ja_cons ?_
      refine je_glob T.g_BadRow ?_
      refine ja_nil ?_
      refine d_isX T.xc_NoName (.own _) T.kit_NoName_BadRow ?_
      refine ⟨_, rfl, ?_⟩
      refine ⟨fun h1 => absurd h1 (by decide), fun h1 => ?_⟩
      refine jb_nil ?_
      refine jb_cons (js_if ?_)
      refine jt_val ?_
      refine je_cB call_isX T.m_isinstance PyProof.Rows.boot_isinstance ?_
      refine ja_cons ?_
      refine je_name 0 rfl rfl ?_
      refine ja_cons ?_
      refine je_glob T.g_NoBound ?_
      refine ja_nil ?_
      refine d_isX T.xc_NoName (.own _) T.kit_NoName_NoBound ?_
      refine ⟨_, rfl, ?_⟩
      refine ⟨fun h2 => absurd h2 (by decide), fun h2 => ?_⟩
      refine jb_nil ?_
      refine jb_cons (js_if ?_)
      refine jt_val ?_
      refine je_cB call_isX T.m_isinstance PyProof.Rows.boot_isinstance ?_
      refine ja_cons ?_
      refine je_name 0 rfl rfl ?_
      refine ja_cons ?_
      refine je_glob T.g_NoName ?_
      refine ja_nil ?_
      refine d_isX T.xc_NoName (.own _) T.kit_NoName_NoName ?_
      refine ⟨_, rfl, ?_⟩
      refine ⟨fun h3 => ?_, fun h3 => absurd h3 (by decide)⟩
      refine jb_cons (js_ret ?_)
      refine je_str ?_
      exact hk
    ·
      refine jb_cons (js_if ?_)
      refine jt_val ?_
      refine je_cB call_isX T.m_isinstance PyProof.Rows.boot_isinstance ?_
      refine ja_cons ?_
      refine je_name 0 rfl rfl ?_
      refine ja_cons ?_
      refine je_glob T.g_BadRow ?_
      refine ja_nil ?_
      refine d_isX T.xc_NoMoment (.own _) T.kit_NoMoment_BadRow ?_
      refine ⟨_, rfl, ?_⟩
      refine ⟨fun h1 => absurd h1 (by decide), fun h1 => ?_⟩
      refine jb_nil ?_
      refine jb_cons (js_if ?_)
      refine jt_val ?_
      refine je_cB call_isX T.m_isinstance PyProof.Rows.boot_isinstance ?_
      refine ja_cons ?_
      refine je_name 0 rfl rfl ?_
      refine ja_cons ?_
      refine je_glob T.g_NoBound ?_
      refine ja_nil ?_
      refine d_isX T.xc_NoMoment (.own _) T.kit_NoMoment_NoBound ?_
      refine ⟨_, rfl, ?_⟩
      refine ⟨fun h2 => absurd h2 (by decide), fun h2 => ?_⟩
      refine jb_nil ?_
      refine jb_cons (js_if ?_)
      refine jt_val ?_
      refine je_cB call_isX T.m_isinstance PyProof.Rows.boot_isinstance ?_
      refine ja_cons ?_
      refine je_name 0 rfl rfl ?_
      refine ja_cons ?_
      refine je_glob T.g_NoName ?_
      refine ja_nil ?_
      refine d_isX T.xc_NoMoment (.own _) T.kit_NoMoment_NoName ?_
      refine ⟨_, rfl, ?_⟩
      refine ⟨fun h3 => absurd h3 (by decide), fun h3 => ?_⟩
      refine jb_nil ?_
      refine jb_cons (js_if ?_)
      refine jt_val ?_
      refine je_cB call_isX T.m_isinstance PyProof.Rows.boot_isinstance ?_
      refine ja_cons ?_
      refine je_name 0 rfl rfl ?_
      refine ja_cons ?_
      refine je_glob T.g_NoMoment ?_
      refine ja_nil ?_
      refine d_isX T.xc_NoMoment (.own _) T.kit_NoMoment_NoMoment ?_
      refine ⟨_, rfl, ?_⟩
      refine ⟨fun h4 => ?_, fun h4 => absurd h4 (by decide)⟩
      refine jb_cons (js_ret ?_)
      refine je_str ?_
      exact hk
    ·
      refine jb_cons (js_if ?_)
      refine jt_val ?_
      refine je_cB call_isX T.m_isinstance PyProof.Rows.boot_isinstance ?_
      refine ja_cons ?_
      refine je_name 0 rfl rfl ?_
      refine ja_cons ?_
      refine je_glob T.g_BadRow ?_
      refine ja_nil ?_
      refine d_isX T.xc_Late (.own _) T.kit_Late_BadRow ?_
      refine ⟨_, rfl, ?_⟩
      refine ⟨fun h1 => absurd h1 (by decide), fun h1 => ?_⟩
      refine jb_nil ?_
      refine jb_cons (js_if ?_)
      refine jt_val ?_
      refine je_cB call_isX T.m_isinstance PyProof.Rows.boot_isinstance ?_
      refine ja_cons ?_
      refine je_name 0 rfl rfl ?_
      refine ja_cons ?_
      refine je_glob T.g_NoBound ?_
      refine ja_nil ?_
      refine d_isX T.xc_Late (.own _) T.kit_Late_NoBound ?_
      refine ⟨_, rfl, ?_⟩
      refine ⟨fun h2 => absurd h2 (by decide), fun h2 => ?_⟩
      refine jb_nil ?_
      refine jb_cons (js_if ?_)
      refine jt_val ?_
      refine je_cB call_isX T.m_isinstance PyProof.Rows.boot_isinstance ?_
      refine ja_cons ?_
      refine je_name 0 rfl rfl ?_
      refine ja_cons ?_
      refine je_glob T.g_NoName ?_
      refine ja_nil ?_
      refine d_isX T.xc_Late (.own _) T.kit_Late_NoName ?_
      refine ⟨_, rfl, ?_⟩
      refine ⟨fun h3 => absurd h3 (by decide), fun h3 => ?_⟩
      refine jb_nil ?_
      refine jb_cons (js_if ?_)
      refine jt_val ?_
      refine je_cB call_isX T.m_isinstance PyProof.Rows.boot_isinstance ?_
      refine ja_cons ?_
      refine je_name 0 rfl rfl ?_
      refine ja_cons ?_
      refine je_glob T.g_NoMoment ?_
      refine ja_nil ?_
      refine d_isX T.xc_Late (.own _) T.kit_Late_NoMoment ?_
      refine ⟨_, rfl, ?_⟩
      refine ⟨fun h4 => absurd h4 (by decide), fun h4 => ?_⟩
      refine jb_nil ?_
      refine jb_cons (js_if ?_)
      refine jt_val ?_
      refine je_cB call_isX T.m_isinstance PyProof.Rows.boot_isinstance ?_
      refine ja_cons ?_
      refine je_name 0 rfl rfl ?_
      refine ja_cons ?_
      refine je_glob T.g_Late ?_
      refine ja_nil ?_
      refine d_isX T.xc_Late (.own _) T.kit_Late_Late ?_
      refine ⟨_, rfl, ?_⟩
      refine ⟨fun h5 => ?_, fun h5 => absurd h5 (by decide)⟩
      refine jb_cons (js_ret ?_)
      refine je_str ?_
      exact hk
    ·
      refine jb_cons (js_if ?_)
      refine jt_val ?_
      refine je_cB call_isX T.m_isinstance PyProof.Rows.boot_isinstance ?_
      refine ja_cons ?_
      refine je_name 0 rfl rfl ?_
      refine ja_cons ?_
      refine je_glob T.g_BadRow ?_
      refine ja_nil ?_
      refine d_isX T.xc_NoCost (.own _) T.kit_NoCost_BadRow ?_
      refine ⟨_, rfl, ?_⟩
      refine ⟨fun h1 => absurd h1 (by decide), fun h1 => ?_⟩
      refine jb_nil ?_
      refine jb_cons (js_if ?_)
      refine jt_val ?_
      refine je_cB call_isX T.m_isinstance PyProof.Rows.boot_isinstance ?_
      refine ja_cons ?_
      refine je_name 0 rfl rfl ?_
      refine ja_cons ?_
      refine je_glob T.g_NoBound ?_
      refine ja_nil ?_
      refine d_isX T.xc_NoCost (.own _) T.kit_NoCost_NoBound ?_
      refine ⟨_, rfl, ?_⟩
      refine ⟨fun h2 => absurd h2 (by decide), fun h2 => ?_⟩
      refine jb_nil ?_
      refine jb_cons (js_if ?_)
      refine jt_val ?_
      refine je_cB call_isX T.m_isinstance PyProof.Rows.boot_isinstance ?_
      refine ja_cons ?_
      refine je_name 0 rfl rfl ?_
      refine ja_cons ?_
      refine je_glob T.g_NoName ?_
      refine ja_nil ?_
      refine d_isX T.xc_NoCost (.own _) T.kit_NoCost_NoName ?_
      refine ⟨_, rfl, ?_⟩
      refine ⟨fun h3 => absurd h3 (by decide), fun h3 => ?_⟩
      refine jb_nil ?_
      refine jb_cons (js_if ?_)
      refine jt_val ?_
      refine je_cB call_isX T.m_isinstance PyProof.Rows.boot_isinstance ?_
      refine ja_cons ?_
      refine je_name 0 rfl rfl ?_
      refine ja_cons ?_
      refine je_glob T.g_NoMoment ?_
      refine ja_nil ?_
      refine d_isX T.xc_NoCost (.own _) T.kit_NoCost_NoMoment ?_
      refine ⟨_, rfl, ?_⟩
      refine ⟨fun h4 => absurd h4 (by decide), fun h4 => ?_⟩
      refine jb_nil ?_
      refine jb_cons (js_if ?_)
      refine jt_val ?_
      refine je_cB call_isX T.m_isinstance PyProof.Rows.boot_isinstance ?_
      refine ja_cons ?_
      refine je_name 0 rfl rfl ?_
      refine ja_cons ?_
      refine je_glob T.g_Late ?_
      refine ja_nil ?_
      refine d_isX T.xc_NoCost (.own _) T.kit_NoCost_Late ?_
      refine ⟨_, rfl, ?_⟩
      refine ⟨fun h5 => absurd h5 (by decide), fun h5 => ?_⟩
      refine jb_nil ?_
      refine jb_cons (js_ret ?_)
      refine je_str ?_
      exact hk
theorem sc_number_of : FnScope ["word", "sign"] ["word"] (defScope s_number_of) := ⟨rfl, rfl, rfl, by decide +kernel, rfl, by decide +kernel, by decide +kernel⟩
theorem ok_number_of {f : Addr} {fd : FuncData} (F : Fun K "number_of" "number_of" s_number_of f fd) (T : Txt K mg A) : FnOk Pg w K mg base (L2.CX Pg w) 1 f fd ["word"] (toSp K (S_number_of A)) := by
  refine fn_data F sc_number_of (fun ds μ kd ke h => ?_) (fun cdv A_ outer s H E c ow ds μ kd ke h => ?_)
  · obtain ⟨w, rfl, hwl, hk1, hk2⟩ := h; rfl
  · obtain ⟨w, rfl, hwl, hk1, hk2⟩ := h
    have hsz : w.length < sizeLine := by rw [sizeLine_eq]; omega
    refine jb_cons (js_if ?_)
    refine jt_w ?_
    apply jw_orP
    ·
      refine jt_not ?_
      apply jt_chainP op_le op_le
      · with_unfolding_all rfl
      ·
        refine je_int ?_
        refine je_cB call_lenA T.m_len PySem.boot_len ?_
        refine ja_cons ?_
        refine je_name 0 rfl rfl ?_
        refine ja_nil ?_
        refine d_lenS (Nat.le_of_lt hsz) ?_
        refine d_cmpI ?_
        refine ⟨⟨rfl, rfl⟩, fun h1 => ?_⟩
        refine je_glob T.g_MOST_FIGURES ?_
        refine d_cmpI ?_
        exact ⟨rfl, rfl⟩
      exact ⟨rfl, rfl⟩
    ·
      intro h2
      refine jw_or1 ?_
      refine jt_not ?_
      refine jt_val ?_
      refine je_cB (cr_all c.calm) T.m_all PyProof.Rows.boot_all ?_
      refine ja_cons ?_
      refine je_lcG (x := "sign") 1 c.calm c.nd (blkOk_by (N := ["word", "sign"]) (sc := defScope s_number_of) (by decide +kernel)) (fun _ _ _ _ _ => pg_name (i := 1) c.nd rfl (Or.inl rfl)) ?_
      refine ji_str ?_
      refine je_name 0 rfl rfl ?_
      refine ⟨_, rfl, ?_⟩
      refine lc_map (fun c => Dv.str ⟨#[c]⟩) w.cps.toList (fun c => some (.bl (decide (c ∈ figs.cps.toList)))) rfl trivial (by first | exact hsz | walk_at "lens") (fun j x μ' hx hμ => ?_) ?_
      ·
        intro s1 H1 C1 cl1 fp1
        refine ⟨fun _ s2 H2 C2 cl2 fp2 => ?_, fun z => nomatch z⟩
        
        refine je_inS ?_
        refine je_name 1 rfl rfl ?_
        refine je_glob T.g_FIGURES ?_
        refine d_inS ?_
        exact ⟨rfl, rfl⟩
      rw [fm_bl (fun c => decide (c ∈ figs.cps.toList))]
      refine ja_nil ?_
      refine d_all (.lst _) ?_
      refine ⟨_, rfl, ?_⟩
      exact ⟨rfl, rfl⟩
    refine ⟨fun h3 => ?_, fun h3 => ?_⟩
    ·
      refine jb_cons (js_raise c T.x_BadRow ?_)
      exact hk2 (by
        unfold numOk
        rw [Bool.or_eq_true] at h3
        rcases h3 with h | h
        · rw [show (decide (1 ≤ (w.length : Int)) && decide ((w.length : Int) ≤ 16)) = false by simpa only [Bool.not_eq_true'] using h]; rfl
        · rw [show (w.cps.toList.map fun c => decide (c ∈ figs.cps.toList)).all id = false by simpa only [Bool.not_eq_true'] using h, Bool.and_false])
    refine jb_nil ?_
    have hnum : numOk w = true := by
      rw [Bool.or_eq_false_iff] at h3
      unfold numOk
      rw [Bool.and_eq_true]
      exact ⟨by simpa only [Bool.not_eq_false'] using h3.1, by simpa only [Bool.not_eq_false'] using h3.2⟩
    refine jb_cons (js_ret ?_)
    refine je_cT call_int_str T.m_int PyProof.Rows.boot_int ?_
    refine ja_cons ?_
    refine je_name 0 rfl rfl ?_
    refine ja_nil ?_
    refine d_intT (num_int hnum).1 (num_int hnum).2 ?_
    exact hk1 hnum
theorem sc_need_words : FnScope ["words", "many"] ["words", "many"] (defScope s_need_words) := ⟨rfl, rfl, rfl, by decide +kernel, rfl, by decide +kernel, by decide +kernel⟩
theorem ok_need_words {f : Addr} {fd : FuncData} (F : Fun K "need_words" "need_words" s_need_words f fd) (T : Txt K mg A) : FnOk Pg w K mg base (L2.CX Pg w) 1 f fd ["words", "many"] (toSp K (S_need_words A)) := by
  refine fn_data F sc_need_words (fun ds μ kd ke h => ?_) (fun cdv A_ outer s H E c ow ds μ kd ke h => ?_)
  · obtain ⟨ws, n, rfl, hwl, hk1, hk2⟩ := h; rfl
  · obtain ⟨ws, n, rfl, hwl, hk1, hk2⟩ := h
    refine jb_cons (js_if ?_)
    refine jt_ne c ?_
    refine je_cB call_lenA T.m_len PySem.boot_len ?_
    refine ja_cons ?_
    refine je_name 0 rfl rfl ?_
    refine ja_nil ?_
    refine d_lenM (.lst _) ?_
    refine je_name 1 rfl rfl ?_
    first | refine d_neI ?_ | refine d_neNil Enc.int (by decide) _ (.inr rfl) ?_ | refine d_neNil encV (by decide) _ (.inl rfl) ?_ | refine d_neS ?_ | refine d_neB ?_ | refine d_neNI ?_
    refine ⟨_, rfl, ?_⟩
    refine ⟨fun h1 => ?_, fun h1 => ?_⟩
    ·
      refine jb_cons (js_raise c T.x_BadRow ?_)
      exact hk2 (by simpa using h1)
    refine jb_nil ?_
    exact jb_nil (hk1 (by simpa using h1))
theorem sc_answer_text : FnScope ["found", "wait"] ["found"] (defScope s_answer_text) := ⟨rfl, rfl, rfl, by decide +kernel, rfl, by decide +kernel, by decide +kernel⟩
theorem ok_answer_text {f : Addr} {fd : FuncData} (F : Fun K "answer_text" "answer_text" s_answer_text f fd) (T : Txt K mg A) : FnOk Pg w K mg base (L2.CX Pg w) 1 f fd ["found"] (toSp K (S_answer_text A)) := by
  refine fn_data F sc_answer_text (fun ds μ kd ke h => ?_) (fun cdv A_ outer s H E c ow ds μ kd ke h => ?_)
  · obtain ⟨a, rfl, ha, hk⟩ := h; rfl
  · obtain ⟨a, rfl, ha, hk⟩ := h
    rcases a with _ | ⟨o, k, _ | i⟩
    ·
      refine jb_cons (js_if ?_)
      refine jt_eq c ?_
      refine je_name 0 rfl rfl ?_
      refine je_tup ?_
      refine ja_cons ?_
      refine je_str ?_
      refine ja_nil ?_
      refine ⟨by walk_at "lens", ?_⟩
      refine d_eqE Enc.ans (by decide) (x := .opn) (y := .opn) rfl rfl ?_
      refine ⟨_, rfl, ?_⟩
      refine ⟨fun h1 => ?_, fun h1 => absurd h1 (by simp)⟩
      refine jb_cons (js_ret ?_)
      refine je_str ?_
      exact hk
    ·
      obtain ⟨hk100, _⟩ := ha o k none rfl
      refine jb_cons (js_if ?_)
      refine jt_eq c ?_
      refine je_name 0 rfl rfl ?_
      refine je_tup ?_
      refine ja_cons ?_
      refine je_str ?_
      refine ja_nil ?_
      refine ⟨by walk_at "lens", ?_⟩
      refine d_eqE Enc.ans (by decide) (x := .shut o k (none)) (y := .opn) rfl rfl ?_
      refine ⟨_, rfl, ?_⟩
      refine ⟨fun h1 => absurd h1 (by simp), fun h1 => ?_⟩
      refine jb_nil ?_
      refine jb_cons (js_set 1 c rfl ?_)
      refine je_to (.str ("never")) ?_ ?_
      ·
        refine je_ite ?_
        refine jt_is ?_
        refine je_ix ?_
        refine je_name 0 rfl rfl ?_
        refine je_int ?_
        first | refine d_ixT rfl ?_ | refine d_ixB3 ?_
        refine je_non ?_
        refine d_isN ?_
        refine ⟨_, rfl, ?_⟩
        refine ⟨fun h2 => ?_, fun h2 => ?_⟩
        ·
          
          refine je_str ?_
          exact ⟨rfl, rfl⟩
        ·
          exact absurd h2 (by decide)
        
      refine jb_cons (js_ret ?_)
      refine je_join ?_
      refine je_str ?_
      refine ⟨DTy.str, ?_⟩
      refine ja_cons ?_
      refine (je_lst ?_ : _)
      refine ja_cons ?_
      refine je_ix ?_
      refine je_name 0 rfl rfl ?_
      refine je_int ?_
      first | refine d_ixT rfl ?_ | refine d_ixB0 ?_
      refine ja_cons ?_
      refine je_ix ?_
      refine je_name 0 rfl rfl ?_
      refine je_int ?_
      first | refine d_ixT rfl ?_ | refine d_ixB1 ?_
      refine ja_cons ?_
      refine je_cT call_str_int T.m_str PyProof.Rows.boot_str ?_
      refine ja_cons ?_
      refine je_ix ?_
      refine je_name 0 rfl rfl ?_
      refine je_int ?_
      first | refine d_ixT rfl ?_ | refine d_ixB2 ?_
      refine ja_nil ?_
      refine d_strI (small_log (by omega) (by omega)) ?_
      refine ja_cons ?_
      refine je_name 1 rfl rfl ?_
      refine ja_nil ?_
      refine ⟨by walk_at "lens", ?_⟩
      refine ja_nil ?_
      refine d_join ["shut", if o then "own" else "common", numS (k : Int), "never"] (.lst _) (ans_len hk100 (by decide +kernel)) ?_
      exact hk
    ·
      obtain ⟨hk100, hi⟩ := ha o k (some i) rfl
      obtain ⟨hi0, hi1⟩ := hi i rfl
      refine jb_cons (js_if ?_)
      refine jt_eq c ?_
      refine je_name 0 rfl rfl ?_
      refine je_tup ?_
      refine ja_cons ?_
      refine je_str ?_
      refine ja_nil ?_
      refine ⟨by walk_at "lens", ?_⟩
      refine d_eqE Enc.ans (by decide) (x := .shut o k (some i)) (y := .opn) rfl rfl ?_
      refine ⟨_, rfl, ?_⟩
      refine ⟨fun h1 => absurd h1 (by simp), fun h1 => ?_⟩
      refine jb_nil ?_
      refine jb_cons (js_set 1 c rfl ?_)
      refine je_to (.str (numS i)) ?_ ?_
      ·
        refine je_ite ?_
        refine jt_is ?_
        refine je_ix ?_
        refine je_name 0 rfl rfl ?_
        refine je_int ?_
        first | refine d_ixT rfl ?_ | refine d_ixB3 ?_
        refine je_non ?_
        refine d_isN ?_
        refine ⟨_, rfl, ?_⟩
        refine ⟨fun h2 => ?_, fun h2 => ?_⟩
        ·
          exact absurd (show false = true from h2) (by decide)
        ·
          
          refine je_cT call_str_int T.m_str PyProof.Rows.boot_str ?_
          refine ja_cons ?_
          refine je_ix ?_
          refine je_name 0 rfl rfl ?_
          refine je_int ?_
          first | refine d_ixT rfl ?_ | refine d_ixB3 ?_
          refine ja_nil ?_
          refine d_strI (small_log (by omega) (by omega)) ?_
          exact ⟨rfl, rfl⟩
        
      refine jb_cons (js_ret ?_)
      refine je_join ?_
      refine je_str ?_
      refine ⟨DTy.str, ?_⟩
      refine ja_cons ?_
      refine (je_lst ?_ : _)
      refine ja_cons ?_
      refine je_ix ?_
      refine je_name 0 rfl rfl ?_
      refine je_int ?_
      first | refine d_ixT rfl ?_ | refine d_ixB0 ?_
      refine ja_cons ?_
      refine je_ix ?_
      refine je_name 0 rfl rfl ?_
      refine je_int ?_
      first | refine d_ixT rfl ?_ | refine d_ixB1 ?_
      refine ja_cons ?_
      refine je_cT call_str_int T.m_str PyProof.Rows.boot_str ?_
      refine ja_cons ?_
      refine je_ix ?_
      refine je_name 0 rfl rfl ?_
      refine je_int ?_
      first | refine d_ixT rfl ?_ | refine d_ixB2 ?_
      refine ja_nil ?_
      refine d_strI (small_log (by omega) (by omega)) ?_
      refine ja_cons ?_
      refine je_name 1 rfl rfl ?_
      refine ja_nil ?_
      refine ⟨by walk_at "lens", ?_⟩
      refine ja_nil ?_
      refine d_join ["shut", if o then "own" else "common", numS (k : Int), numS i] (.lst _) (ans_len hk100 (numS_len hi0 (by omega))) ?_
      exact hk
theorem sc_Turns_init : FnScope ["self"] ["self"] (defScope s_Turns_init) := ⟨rfl, rfl, rfl, by decide +kernel, rfl, by decide +kernel, by decide +kernel⟩
theorem ok_Turns_init {f : Addr} {fd : FuncData} (F : Fun K "__init__" "Turns.__init__" s_Turns_init f fd) (T : Txt K mg A) : FnOk Pg w K mg base (L2.CX Pg w) 1 f fd ["self"] (toSp K (S_Turns_init A)) := by
  refine fn_data F sc_Turns_init (fun ds μ kd ke h => ?_) (fun cdv A_ outer s H E c ow ds μ kd ke h => ?_)
  · obtain ⟨tu, rfl, htu, hk⟩ := h; rfl
  · obtain ⟨tu, rfl, htu, hk⟩ := h
    refine jb_cons (js_fld ?_)
    refine je_dict2 (by decide +kernel) fun ld hld => ?_
    refine je_lstM (ja_nil ⟨by rw [sizeLine_eq]; simp, fun la hla => ?_⟩)
    refine je_lstM (ja_nil ⟨by rw [sizeLine_eq]; simp, fun lb hlb => ?_⟩)
    have n1 : tu ≠ ld := ne_ofM htu hld
    have n2 : tu ≠ la := ne_ofM ((updM_ne n1).trans htu) hla
    have n3 : tu ≠ lb := ne_ofM ((updM_ne n2).trans ((updM_ne n1).trans htu)) hlb
    have n4 : ld ≠ la := ne_ofM updM_same hla
    have n5 : ld ≠ lb := ne_ofM ((updM_ne n4).trans updM_same) hlb
    have n6 : la ≠ lb := ne_ofM updM_same hlb
    refine ⟨(updM_ne n5).trans ((updM_ne n4).trans updM_same), ?_⟩
    refine je_name 0 rfl rfl ?_
    refine ⟨_, _, _, rfl, (updM_ne n1).trans ((updM_ne n3).trans ((updM_ne n2).trans ((updM_ne n1).trans htu))), T.cl_Turns, T.na_Turns_limits, by walk_at "fl", ?_⟩
    refine jb_cons (js_fld ?_)
    refine je_non ?_
    refine je_name 0 rfl rfl ?_
    refine ⟨_, _, _, rfl, updM_same, T.cl_Turns, T.na_Turns_gate, by walk_at "fl", ?_⟩
    refine jb_nil (hk ⟨tu, ld, la, lb, none⟩ _ ?_ rfl (fun a o h hn => ?_) fun b hb => ?_)
    · rw [updM_updM, tu_init]
      exact ⟨updM_same, (updM_ne n1.symm).trans updM_same, (updM_ne n2.symm).trans ((updM_ne n4.symm).trans ((updM_ne n6).trans updM_same)), (updM_ne n3.symm).trans ((updM_ne n5.symm).trans updM_same), n6,
        ⟨fun b hb => (nomatch hb), fun b hb => (nomatch hb), Nat.zero_le _, Nat.zero_le _, fun p hp => (nomatch hp), fun q hq => (nomatch hq), fun q hq => (nomatch hq), Nat.le_refl _, fun q hq => (nomatch hq)⟩, fun _ => rfl, fun x hx => (nomatch hx)⟩
    · have m1 : a ≠ ld := ne_ofM h hld
      have m2 : a ≠ la := ne_ofM ((updM_ne m1).trans h) hla
      have m3 : a ≠ lb := ne_ofM ((updM_ne m2).trans ((updM_ne m1).trans h)) hlb
      exact (updM_ne hn).trans ((updM_ne hn).trans ((updM_ne m1).trans ((updM_ne m3).trans ((updM_ne m2).trans ((updM_ne m1).trans h)))))
    · rcases hb with e | e | e | e | ⟨x, e, _⟩
      · exact .inl e
      · rw [e]; exact .inr hld
      · rw [e]; exact .inr (by have := hla; rw [updM_ne n4.symm] at this; exact this)
      · rw [e]; exact .inr (by have := hlb; rw [updM_ne n6.symm, updM_ne n5.symm] at this; exact this)
      · cases e
theorem sc_Turns_bound_row : FnScope ["self", "words", "one", "other", "bound"] ["self", "words"] (defScope s_Turns_bound_row) := ⟨rfl, rfl, rfl, by decide +kernel, rfl, by decide +kernel, by decide +kernel⟩
theorem ok_Turns_bound_row {f : Addr} {fd : FuncData} (F : Fun K "bound_row" "Turns.bound_row" s_Turns_bound_row f fd) (T : Txt K mg A) (F_need_words : DCal Pg w K mg base 1 "need_words" (S_need_words A) []) (F_number_of : DCal Pg w K mg base 1 "number_of" (S_number_of A) []) (F_Jar : DMak Pg w K mg base 2 "Jar" A.CJ (S_Jar_init A) []) (F_Window : DMak Pg w K mg base 2 "Window" A.CW (S_Window_init A) []) : FnOk Pg w K mg base (L2.CX Pg w) 4 f fd ["self", "words"] (toSp K (S_Turns_bound_row A)) := by
  refine fn_data F sc_Turns_bound_row (fun ds μ kd ke h => ?_) (fun cdv A_ outer s H E c ow ds μ kd ke h => ?_)
  · obtain ⟨f, s, ws, rfl, T0, ⟨⟨hwl, hww, hwn⟩, hal⟩, hP, hke, hk⟩ := h; rfl
  · obtain ⟨f, s, ws, rfl, T0, ⟨⟨hwl, hww, hwn⟩, hal⟩, hP, hke, hk⟩ := h
    refine jb_cons (js_expr ?_)
    refine je_call c F_need_words (by decide) ?_
    refine ja_cons ?_
    refine je_name 1 rfl rfl ?_
    refine ja_cons ?_
    refine je_int ?_
    refine ja_nil ?_
    refine ⟨ws, _, rfl, hwl, fun hw4 => ?_, fun hw4 => hke .bad s (by unfold boundA; rw [if_pos (by omega)]) f _ (Nxt.ext T0 (ExtM.refl _))⟩
    replace hw4 : ws.length = 4 := by omega
    refine jb_cons (js_if ?_)
    refine jt_w ?_
    apply jw_orP
    ·
      refine jt_isnot ?_
      refine je_fld ?_
      refine je_name 0 rfl rfl ?_
      refine ⟨_, _, _, .obj T0.obj, T.cl_Turns, T.na_Turns_gate, tuF_gate .., ?_⟩
      refine je_non ?_
      refine d_isnotN ?_
      refine ⟨_, rfl, ?_⟩
      exact ⟨rfl, rfl⟩
    ·
      intro h1
      refine jw_or1 ?_
      refine jt_notinT ?_
      refine je_ix ?_
      refine je_name 1 rfl rfl ?_
      refine je_int ?_
      refine d_ixW 1 rfl (by omega) ?_
      refine je_tup ?_
      refine ja_cons ?_
      refine je_str ?_
      refine ja_cons ?_
      refine je_str ?_
      refine ja_nil ?_
      refine ⟨by walk_at "lens", ?_⟩
      refine d_notinT ["jar", "window"] rfl ?_
      refine ⟨_, rfl, ?_⟩
      exact ⟨rfl, rfl⟩
    refine ⟨fun h2 => ?_, fun h2 => ?_⟩
    ·
      refine jb_cons (js_raise c T.x_BadRow ?_)
      rw [T0.gd_eq] at h2
      exact hke .bad s (by unfold boundA; rw [if_neg (not_not_intro hw4), if_pos h2]) f _ (Nxt.ext T0 (ExtM.refl _))
    refine jb_nil ?_
    have hb1 := h2
    rw [T0.gd_eq] at hb1
    refine jb_cons (js_set 2 c rfl ?_)
    refine je_call c F_number_of (by decide) ?_
    refine ja_cons ?_
    refine je_ix ?_
    refine je_name 1 rfl rfl ?_
    refine je_int ?_
    refine d_ixW 2 rfl (by omega) ?_
    refine ja_nil ?_
    refine ⟨_, rfl, at_lt hww (by omega), fun hn2 => ?_, fun hn2 => hke .bad s (by unfold boundA; rw [if_neg (not_not_intro hw4), if_neg (by rw [hb1]; decide)]; rw [if_pos hn2]) f _ (Nxt.ext T0 (ExtM.refl _))⟩
    refine jb_cons (js_set 3 c rfl ?_)
    refine je_call c F_number_of (by decide) ?_
    refine ja_cons ?_
    refine je_ix ?_
    refine je_name 1 rfl rfl ?_
    refine je_int ?_
    refine d_ixW 3 rfl (by omega) ?_
    refine ja_nil ?_
    refine ⟨_, rfl, at_lt hww (by omega), fun hn3 => ?_, fun hn3 => hke .bad s (by unfold boundA; rw [if_neg (not_not_intro hw4), if_neg (by rw [hb1]; decide), if_neg (by rw [hn2]; decide)]; rw [if_pos hn3]) f _ (Nxt.ext T0 (ExtM.refl _))⟩
    by_cases hj : at_ ws 1 = "jar"
    · refine jb_cons (js_set 4 c rfl ?_)
      refine je_ite ?_
      refine jt_eq c ?_
      refine je_ix ?_
      refine je_name 1 rfl rfl ?_
      refine je_int ?_
      refine d_ixW 1 rfl (by omega) ?_
      refine je_str ?_
      refine d_eqS ?_
      refine ⟨_, rfl, fun _ => ?_, fun z => absurd hj (of_decide_eq_false z)⟩
      have hbd : bdW (at_ ws 1) (numV (at_ ws 2)) (numV (at_ ws 3)) = Bd.jar (numV (at_ ws 2)) (numV (at_ ws 3)) := if_pos hj
      refine je_make c F_Jar (by decide) (ja_cons (je_name 2 rfl rfl (ja_cons (je_name 3 rfl rfl (ja_nil ?_)))))
      refine fun a_ ha_ => ⟨_, _, _, _, _, rfl, updM_same, .int _, .int _, fun g => ⟨rfl, .inr ⟨_, _, updM_same, ?_⟩⟩, fun g => ?_⟩
      rotate_left
      · have hbo : bdOk (bdW (at_ ws 1) (numV (at_ ws 2)) (numV (at_ ws 3))) = false := by rw [hbd]; exact g
        exact hke .bound s (by unfold boundA; rw [if_neg (not_not_intro hw4), if_neg (by rw [hb1]; decide), if_neg (by rw [hn2]; decide), if_neg (by rw [hn3]; decide)]; rw [if_pos hbo]) f _ (Nxt.ext T0 (ext_new ha_))
      have hbo : bdOk (bdW (at_ ws 1) (numV (at_ ws 2)) (numV (at_ ws 3))) = true := by rw [hbd]; exact g
      rw [updM_updM, delM_updM ha_]
      change JB _ _ _ _ ([some (.obj f.tu), some (.lst (ws.map Dv.str)), some (.int (numV (at_ ws 2))), some (.int (numV (at_ ws 3))), some ((Bd.jar (numV (at_ ws 2)) (numV (at_ ws 3))).pv A)]) _ _
      rw [← hbd]
      generalize hbw : bdW (at_ ws 1) (numV (at_ ws 2)) (numV (at_ ws 3)) = bd at *
      have okb := (bdOk_iff bd).mp hbo
      have hlim := T0.lim (at_ ws 0)
      have hll : (s.lim (at_ ws 0)).length ≤ 4 := by unfold Tn.lim; split; exact T0.ok.lO; exact T0.ok.lC
      have hgn : s.gate = none := by
        have := hb1
        rw [Bool.or_eq_false_iff] at this
        cases e : s.gate with
        | none => rfl
        | some x => rw [e] at this; exact absurd this.1 (by simp)
      refine jb_cons (js_if ?_)
      refine jt_eq c ?_
      refine je_cB call_lenA T.m_len PySem.boot_len ?_
      refine ja_cons ?_
      refine je_dget c (fun _ _ => rfl) ?_
      refine je_fld ?_
      refine je_name 0 rfl rfl ?_
      refine ⟨_, _, _, .obj T0.obj, T.cl_Turns, T.na_Turns_limits, tuF_limits .., ?_⟩
      refine je_ix ?_
      refine je_name 1 rfl rfl ?_
      refine je_int ?_
      refine d_ixW 0 rfl (by omega) ?_
      refine ⟨_, _, .inr (at_ ws 0), _, rfl, .dic T0.dic, rfl, f.val hP, ?_⟩
      refine ja_nil ?_
      refine d_lenM (.obj hlim) ?_
      refine je_glob T.g_MOST_BOUNDS_rows ?_
      refine d_eqI ?_
      refine ⟨_, rfl, fun h4 => ?_, fun h4 => ?_⟩
      · refine jb_cons (js_raise c T.x_NoBound ?_)
        have hl4 : (s.lim (at_ ws 0)).length = 4 := by have := of_decide_eq_true h4; omega
        exact hke .bound s (by unfold boundA; rw [if_neg (not_not_intro hw4), if_neg (by rw [hb1]; decide), if_neg (by rw [hn2]; decide), if_neg (by rw [hn3]; decide)]; rw [hbw, if_neg (by rw [hbo]; decide), if_pos hl4]) f _ (Nxt.ext T0 (ExtM.refl _))
      refine jb_nil ?_
      have hl4 : ¬ (s.lim (at_ ws 0)).length = 4 := by have := of_decide_eq_false h4; omega
      refine jb_cons (js_expr ?_)
      refine je_append ?_
      refine je_dget c (fun _ _ => rfl) ?_
      refine je_fld ?_
      refine je_name 0 rfl rfl ?_
      refine ⟨_, _, _, .obj T0.obj, T.cl_Turns, T.na_Turns_limits, tuF_limits .., ?_⟩
      refine je_ix ?_
      refine je_name 1 rfl rfl ?_
      refine je_int ?_
      refine d_ixW 0 rfl (by omega) ?_
      refine ⟨_, _, .inr (at_ ws 0), _, rfl, .dic T0.dic, rfl, f.val hP, ?_⟩
      refine ⟨_, rfl, ⟨_, hlim⟩, ?_⟩
      refine je_name 4 rfl rfl ?_
      refine ⟨_, hlim, by rw [List.length_map, sizeLine_eq]; omega, ?_⟩
      refine jb_cons (js_ret ?_)
      refine je_str ?_
      exact hk "ok" (s.add (at_ ws 0) bd) (by unfold boundA; rw [if_neg (not_not_intro hw4), if_neg (by rw [hb1]; decide), if_neg (by rw [hn2]; decide), if_neg (by rw [hn3]; decide)]; rw [hbw, if_neg (by rw [hbo]; decide), if_neg hl4]) f _ (T0.add hgn okb hll hl4)
    · refine jb_cons (js_set 4 c rfl ?_)
      refine je_ite ?_
      refine jt_eq c ?_
      refine je_ix ?_
      refine je_name 1 rfl rfl ?_
      refine je_int ?_
      refine d_ixW 1 rfl (by omega) ?_
      refine je_str ?_
      refine d_eqS ?_
      refine ⟨_, rfl, fun z => absurd (of_decide_eq_true z) hj, fun _ => ?_⟩
      have hbd : bdW (at_ ws 1) (numV (at_ ws 2)) (numV (at_ ws 3)) = Bd.win (numV (at_ ws 2)) (numV (at_ ws 3)) := if_neg hj
      refine je_make c F_Window (by decide) (ja_cons (je_name 2 rfl rfl (ja_cons (je_name 3 rfl rfl (ja_nil ?_)))))
      refine fun a_ ha_ => ⟨_, _, _, _, _, rfl, updM_same, .int _, .int _, fun g => ⟨rfl, .inr ⟨_, _, updM_same, ?_⟩⟩, fun g => ?_⟩
      rotate_left
      · have hbo : bdOk (bdW (at_ ws 1) (numV (at_ ws 2)) (numV (at_ ws 3))) = false := by rw [hbd]; exact g
        exact hke .bound s (by unfold boundA; rw [if_neg (not_not_intro hw4), if_neg (by rw [hb1]; decide), if_neg (by rw [hn2]; decide), if_neg (by rw [hn3]; decide)]; rw [if_pos hbo]) f _ (Nxt.ext T0 (ext_new ha_))
      have hbo : bdOk (bdW (at_ ws 1) (numV (at_ ws 2)) (numV (at_ ws 3))) = true := by rw [hbd]; exact g
      rw [updM_updM, delM_updM ha_]
      change JB _ _ _ _ ([some (.obj f.tu), some (.lst (ws.map Dv.str)), some (.int (numV (at_ ws 2))), some (.int (numV (at_ ws 3))), some ((Bd.win (numV (at_ ws 2)) (numV (at_ ws 3))).pv A)]) _ _
      rw [← hbd]
      generalize hbw : bdW (at_ ws 1) (numV (at_ ws 2)) (numV (at_ ws 3)) = bd at *
      have okb := (bdOk_iff bd).mp hbo
      have hlim := T0.lim (at_ ws 0)
      have hll : (s.lim (at_ ws 0)).length ≤ 4 := by unfold Tn.lim; split; exact T0.ok.lO; exact T0.ok.lC
      have hgn : s.gate = none := by
        have := hb1
        rw [Bool.or_eq_false_iff] at this
        cases e : s.gate with
        | none => rfl
        | some x => rw [e] at this; exact absurd this.1 (by simp)
      refine jb_cons (js_if ?_)
      refine jt_eq c ?_
      refine je_cB call_lenA T.m_len PySem.boot_len ?_
      refine ja_cons ?_
      refine je_dget c (fun _ _ => rfl) ?_
      refine je_fld ?_
      refine je_name 0 rfl rfl ?_
      refine ⟨_, _, _, .obj T0.obj, T.cl_Turns, T.na_Turns_limits, tuF_limits .., ?_⟩
      refine je_ix ?_
      refine je_name 1 rfl rfl ?_
      refine je_int ?_
      refine d_ixW 0 rfl (by omega) ?_
      refine ⟨_, _, .inr (at_ ws 0), _, rfl, .dic T0.dic, rfl, f.val hP, ?_⟩
      refine ja_nil ?_
      refine d_lenM (.obj hlim) ?_
      refine je_glob T.g_MOST_BOUNDS_rows ?_
      refine d_eqI ?_
      refine ⟨_, rfl, fun h4 => ?_, fun h4 => ?_⟩
      · refine jb_cons (js_raise c T.x_NoBound ?_)
        have hl4 : (s.lim (at_ ws 0)).length = 4 := by have := of_decide_eq_true h4; omega
        exact hke .bound s (by unfold boundA; rw [if_neg (not_not_intro hw4), if_neg (by rw [hb1]; decide), if_neg (by rw [hn2]; decide), if_neg (by rw [hn3]; decide)]; rw [hbw, if_neg (by rw [hbo]; decide), if_pos hl4]) f _ (Nxt.ext T0 (ExtM.refl _))
      refine jb_nil ?_
      have hl4 : ¬ (s.lim (at_ ws 0)).length = 4 := by have := of_decide_eq_false h4; omega
      refine jb_cons (js_expr ?_)
      refine je_append ?_
      refine je_dget c (fun _ _ => rfl) ?_
      refine je_fld ?_
      refine je_name 0 rfl rfl ?_
      refine ⟨_, _, _, .obj T0.obj, T.cl_Turns, T.na_Turns_limits, tuF_limits .., ?_⟩
      refine je_ix ?_
      refine je_name 1 rfl rfl ?_
      refine je_int ?_
      refine d_ixW 0 rfl (by omega) ?_
      refine ⟨_, _, .inr (at_ ws 0), _, rfl, .dic T0.dic, rfl, f.val hP, ?_⟩
      refine ⟨_, rfl, ⟨_, hlim⟩, ?_⟩
      refine je_name 4 rfl rfl ?_
      refine ⟨_, hlim, by rw [List.length_map, sizeLine_eq]; omega, ?_⟩
      refine jb_cons (js_ret ?_)
      refine je_str ?_
      exact hk "ok" (s.add (at_ ws 0) bd) (by unfold boundA; rw [if_neg (not_not_intro hw4), if_neg (by rw [hb1]; decide), if_neg (by rw [hn2]; decide), if_neg (by rw [hn3]; decide)]; rw [hbw, if_neg (by rw [hbo]; decide), if_neg hl4]) f _ (T0.add hgn okb hll hl4)
theorem sc_Turns_begin : FnScope ["self"] ["self"] (defScope s_Turns_begin) := ⟨rfl, rfl, rfl, by decide +kernel, rfl, by decide +kernel, by decide +kernel⟩
theorem ok_Turns_begin {f : Addr} {fd : FuncData} (F : Fun K "begin" "Turns.begin" s_Turns_begin f fd) (T : Txt K mg A) (F_Gate : DMak Pg w K mg base 5 "Gate" A.CG (S_Gate_init A) []) : FnOk Pg w K mg base (L2.CX Pg w) 7 f fd ["self"] (toSp K (S_Turns_begin A)) := by
  refine fn_data F sc_Turns_begin (fun ds μ kd ke h => ?_) (fun cdv A_ outer s H E c ow ds μ kd ke h => ?_)
  · obtain ⟨f, s, rfl, T0, hk⟩ := h; rfl
  · obtain ⟨f, s, rfl, T0, hk⟩ := h
    refine jb_cons (js_if (jt_is ?_))
    refine je_fld (je_name 0 rfl rfl ?_)
    refine ⟨_, _, _, .obj T0.obj, T.cl_Turns, T.na_Turns_gate, tuF_gate .., ?_⟩
    refine je_non (d_isN ?_)
    refine ⟨_, rfl, fun h1 => ?_, fun h1 => ?_⟩
    · have hgf : f.gf = none := by
        cases e : f.gf with
        | none => rfl
        | some x => rw [show f.gd = .obj x.1 by unfold TF.gd; rw [e]] at h1; exact absurd (show false = true from h1) (by decide)
      have hlo : s.lim "own" = s.own := if_pos rfl
      have hlc : s.lim "common" = s.com := if_neg (by decide +kernel)
      have o1 := T0.lim "own"
      have o2 := T0.lim "common"
      refine jb_cons (js_fld ?_)
      refine je_make c F_Gate (by decide) ?_
      refine ja_cons ?_
      refine je_dget c (fun _ _ => rfl) ?_
      refine je_fld ?_
      refine je_name 0 rfl rfl ?_
      refine ⟨_, _, _, .obj T0.obj, T.cl_Turns, T.na_Turns_limits, tuF_limits .., ?_⟩
      refine je_str ?_
      refine ⟨_, _, .inr "own", _, rfl, .dic T0.dic, rfl, f.val (w := "own") (by decide +kernel), ?_⟩
      
      refine ja_cons ?_
      refine je_dget c (fun _ _ => rfl) ?_
      refine je_fld ?_
      refine je_name 0 rfl rfl ?_
      refine ⟨_, _, _, .obj T0.obj, T.cl_Turns, T.na_Turns_limits, tuF_limits .., ?_⟩
      refine je_str ?_
      refine ⟨_, _, .inr "common", _, rfl, .dic T0.dic, rfl, f.val (w := "common") (by decide +kernel), ?_⟩
      
      refine ja_nil ?_
      have lz1 := T0.ok.lO
      have lz2 := T0.ok.lC
      rw [← hlo] at lz1
      rw [← hlc] at lz2
      refine fun g hg => ⟨g, _, _, _, _, (s.lim "own").map some, (s.lim "common").map some, rfl, updM_same, .obj ((updM_ne (ne_ofM o1 hg)).trans o1), .obj ((updM_ne (ne_ofM o2 hg)).trans o2), bths (by rw [hlo]; exact T0.ok.okO), bths (by rw [hlc]; exact T0.ok.okC), ⟨by rw [List.length_map, sizeLine_eq]; omega, by rw [List.length_map, sizeLine_eq]; omega⟩, fun gg pd cas μ1 fr foot G => ⟨rfl, .inl ?_⟩, fun gg => absurd gg (by rw [goodBs_some (by omega), goodBs_some (by omega)]; decide)⟩
      rw [fm_some_id, fm_some_id, hlo, hlc] at G
      have ntu := ne_ofM T0.obj hg
      refine je_name 0 rfl rfl ?_
      refine ⟨_, _, _, rfl, fr f.tu _ ((updM_ne ntu).trans T0.obj) ntu, T.cl_Turns, T.na_Turns_gate, by walk_at "fl", ?_⟩
      rw [tu_gate]
      refine jb_nil (jb_nil ?_)
      refine hk _ _ _ (T0.made (T0.no hgf) hg G (fun b o h => fr b o ((updM_ne (ne_ofM h hg)).trans h) (ne_ofM h hg)) fun b hb => ?_) rfl
      rcases foot b hb with e | e
      · exact .inl e
      · by_cases z : b = g
        · exact .inl z
        · rw [updM_ne z] at e; exact .inr e
    refine jb_nil ?_
    obtain ⟨x, hx⟩ : ∃ x, f.gf = some x := by
      cases e : f.gf with
      | none => rw [show f.gd = .non by unfold TF.gd; rw [e]] at h1; exact absurd (show true = false from h1) (by decide)
      | some x => exact ⟨x, rfl⟩
    refine jb_nil (hk f _ x ?_ hx)
    have hb : s.begin = s := by
      have := (T0.gt x hx).1
      unfold Tn.begin
      cases e : s.gate with
      | none => rw [e] at this; cases this
      | some y => rfl
    rw [hb]
    exact Nxt.ext T0 (ExtM.refl _)
theorem sc_Turns_visit_row : FnScope ["self", "words", "moment", "cost"] ["self", "words"] (defScope s_Turns_visit_row) := ⟨rfl, rfl, rfl, by decide +kernel, rfl, by decide +kernel, by decide +kernel⟩
theorem ok_Turns_visit_row {f : Addr} {fd : FuncData} (F : Fun K "visit_row" "Turns.visit_row" s_Turns_visit_row f fd) (T : Txt K mg A) (F_need_words : DCal Pg w K mg base 1 "need_words" (S_need_words A) []) (F_number_of : DCal Pg w K mg base 1 "number_of" (S_number_of A) []) (F_answer_text : DCal Pg w K mg base 1 "answer_text" (S_answer_text A) []) (M_Turns_begin : DMet Pg w K mg base 7 A.CTU "begin" (S_Turns_begin A) []) (M_Gate_ask : DMet Pg w K mg base 6 A.CG "ask" (S_Gate_ask A) []) (M_Gate_visit : DMet Pg w K mg base 7 A.CG "visit" (S_Gate_visit A) []) : FnOk Pg w K mg base (L2.CX Pg w) 8 f fd ["self", "words"] (toSp K (S_Turns_visit_row A)) := by
  refine fn_data F sc_Turns_visit_row (fun ds μ kd ke h => ?_) (fun cdv A_ outer s H E c ow ds μ kd ke h => ?_)
  · obtain ⟨f, s, ws, rfl, T0, ⟨⟨hwl, hww, hwn⟩, hal⟩, hP, hke, hk⟩ := h; rfl
  · obtain ⟨f, s, ws, rfl, T0, ⟨⟨hwl, hww, hwn⟩, hal⟩, hP, hke, hk⟩ := h
    refine jb_cons (js_expr ?_)
    refine je_call c F_need_words (by decide) ?_
    refine ja_cons ?_
    refine je_name 1 rfl rfl ?_
    refine ja_cons ?_
    refine je_int ?_
    refine ja_nil ?_
    refine ⟨ws, _, rfl, hwl, fun hw4 => ?_, fun hw4 => hke .bad s (by unfold visitA; rw [if_pos (by omega)]) f _ (Nxt.ext T0 (ExtM.refl _))⟩
    replace hw4 : ws.length = 4 := by omega
    refine jb_cons (js_set 2 c rfl ?_)
    refine je_call c F_number_of (by decide) ?_
    refine ja_cons ?_
    refine je_ix ?_
    refine je_name 1 rfl rfl ?_
    refine je_int ?_
    refine d_ixW 2 rfl (by omega) ?_
    refine ja_nil ?_
    refine ⟨_, rfl, at_lt hww (by omega), fun hn2 => ?_, fun hn2 => hke .bad s (by unfold visitA; rw [if_neg (not_not_intro hw4), if_pos hn2]) f _ (Nxt.ext T0 (ExtM.refl _))⟩
    refine jb_cons (js_set 3 c rfl ?_)
    refine je_call c F_number_of (by decide) ?_
    refine ja_cons ?_
    refine je_ix ?_
    refine je_name 1 rfl rfl ?_
    refine je_int ?_
    refine d_ixW 3 rfl (by omega) ?_
    refine ja_nil ?_
    refine ⟨_, rfl, at_lt hww (by omega), fun hn3 => ?_, fun hn3 => hke .bad s (by unfold visitA; rw [if_neg (not_not_intro hw4), if_neg (by rw [hn2]; decide), if_pos hn3]) f _ (Nxt.ext T0 (ExtM.refl _))⟩
    refine jb_cons (js_expr ?_)
    refine je_meth0 c ?_
    refine je_name 0 rfl rfl ?_
    refine ⟨_, _, _, _, _, .obj T0.obj, tuF_no _ _ (by decide +kernel) (by decide +kernel), M_Turns_begin, by decide, ?_⟩
    refine ⟨f, s, rfl, T0, fun f1 μ1 x nx hx => ?_⟩
    obtain ⟨g, pd, cas, pas⟩ := x
    have T1 := nx.at_
    have htu := nx.tu
    obtain ⟨hs1, G1, hap⟩ := T1.gt _ hx
    obtain ⟨bg1, bg2, bg3, bg4⟩ := begin_g s
    have hgd : f1.gd = .obj g := by unfold TF.gd; rw [hx]
    have T1o := T1.obj
    rw [hgd] at T1o
    rw [← htu]
    have hva : visitA s ws = gateA s.begin (!decide (at_ ws 0 = "ask")) (at_ ws 1) (numV (at_ ws 2)) (numV (at_ ws 3)) := by unfold visitA; rw [if_neg (not_not_intro hw4), if_neg (by rw [hn2]; decide), if_neg (by rw [hn3]; decide)]
    have hw1 : (at_ ws 1).length < sizeLine := by have := at_lt hww (j := 1) (by omega); rw [sizeLine_eq]; omega
    have hal1 : s.begin.g.all.length ≤ 63 := by rw [bg1]; exact hal
    have ok1 := T1.ok
    have hpl := ok1.pln
    have hpl2 := ok1.pl2
    have hpas : pas.length = s.begin.g.people.length := by have := congrArg List.length (ppl_fst G1.ppl); rw [List.length_map, List.length_map] at this; exact this
    refine jb_cons (js_if (jt_eq c (je_ix (je_name 1 rfl rfl (je_int (d_ixW 0 rfl (by omega) ?_))))))
    refine je_str (d_eqS ⟨_, rfl, fun ha => ?_, fun ha => ?_⟩)
    · have hat : at_ ws 0 = "ask" := of_decide_eq_true ha
      refine jb_cons (js_ret ?_)
      refine je_call c F_answer_text (by decide) (ja_cons ?_)
      refine je_meth c (je_fld (je_name 0 rfl rfl ⟨_, _, _, .obj T1o, T.cl_Turns, T.na_Turns_gate, tuF_gate .., ?_⟩))
      refine ⟨_, _, _, _, _, .obj G1.obj, gtF_no _ _ _ _ _ (by decide +kernel) (by decide +kernel) (by decide +kernel) (by decide +kernel), M_Gate_ask, by decide, ?_⟩
      refine ja_cons (je_ix (je_name 1 rfl rfl (je_int (d_ixW 1 rfl (by omega) ?_))))
      refine ja_cons (je_name 2 rfl rfl (ja_cons (je_name 3 rfl rfl (ja_nil ?_))))
      
      refine ⟨g, _, _, _, _, _, pd, cas, pas, _, _, _, some (at_ ws 1), some (numV (at_ ws 2)), some (numV (at_ ws 3)), rfl, G1, ⟨.str _ hw1, .int _, .int _⟩, fun r hr => ?_, fun nm t c_ hr e1 e2 e3 μ2 ex => ?_⟩
      · exact hke (.gate r) s.begin (by rw [hva, gateA, hr]) f1 μ1 nx
      · obtain ⟨_, _, _, q1, q2, q3, hnm, hlt, ht0, ht1, hc0, hc1⟩ := refu_none hr
        cases q1; cases q2; cases q3; cases e1; cases e2; cases e3
        refine ja_nil ⟨_, rfl, ask_ok ok1 (by omega) ht0 (by omega) hc1, ?_⟩
        refine hk _ s.begin ?_ f1 μ2 (nx.trans (Nxt.ext T1 ex))
        rw [hva, gateA, hr, hat]
        rfl
    refine jb_nil ?_
    have hat : ¬ at_ ws 0 = "ask" := of_decide_eq_false ha
    refine jb_cons (js_ret ?_)
    refine je_call c F_answer_text (by decide) (ja_cons ?_)
    refine je_meth c (je_fld (je_name 0 rfl rfl ⟨_, _, _, .obj T1o, T.cl_Turns, T.na_Turns_gate, tuF_gate .., ?_⟩))
    refine ⟨_, _, _, _, _, .obj G1.obj, gtF_no _ _ _ _ _ (by decide +kernel) (by decide +kernel) (by decide +kernel) (by decide +kernel), M_Gate_visit, by decide, ?_⟩
    refine ja_cons (je_ix (je_name 1 rfl rfl (je_int (d_ixW 1 rfl (by omega) ?_))))
    refine ja_cons (je_name 2 rfl rfl (ja_cons (je_name 3 rfl rfl (ja_nil ?_))))
    refine ⟨g, _, _, _, _, _, pd, cas, pas, _, _, _, some (at_ ws 1), some (numV (at_ ws 2)), some (numV (at_ ws 3)), rfl, G1, ⟨.str _ hw1, .int _, .int _⟩, ⟨by omega, hpl.mono (by omega), by omega⟩, fun r hr => ?_, fun nm t c_ hr e1 e2 e3 => ?_⟩
    · exact hke (.gate r) s.begin (by rw [hva, gateA, hr]) f1 μ1 nx
    obtain ⟨_, _, _, q1, q2, q3, hnm, hlt, ht0, ht1, hc0, hc1⟩ := refu_none hr
    cases q1; cases q2; cases q3; cases e1; cases e2; cases e3
    have hnl : (at_ ws 1).length ≤ 8 := by have := nameOk_len hnm; rw [Bool.and_eq_true, decide_eq_true_iff, decide_eq_true_iff] at this; omega
    refine ⟨fun hno μ2 ex => ?_, fun hop μ2 pas' G2 lp kp fr => ?_⟩
    · refine ja_nil ⟨_, rfl, ask_ok ok1 (by omega) ht0 (by omega) hc1, ?_⟩
      refine hk _ s.begin ?_ f1 μ2 (nx.trans (Nxt.ext T1 ex))
      rw [hva, gateA, hr]
      simp only [hno, decide_false, Bool.and_false, if_neg Bool.false_ne_true]
    · refine ja_nil ⟨.opn, rfl, (fun o k w z => nomatch z), ?_⟩
      refine hk _ _ ?_ _ μ2 (nx.trans (T1.visit hx ⟨⟨ht0, ht1⟩, hc0, hc1⟩ hnl G2 kp fr))
      rw [hva, gateA, hr]
      simp only [hop, hat, decide_false, decide_true, Bool.not_false, Bool.and_true, if_true]
      rfl
theorem sc_Turns_answer_to : FnScope ["self", "words"] ["self", "words"] (defScope s_Turns_answer_to) := ⟨rfl, rfl, rfl, by decide +kernel, rfl, by decide +kernel, by decide +kernel⟩
theorem ok_Turns_answer_to {f : Addr} {fd : FuncData} (F : Fun K "answer_to" "Turns.answer_to" s_Turns_answer_to f fd) (T : Txt K mg A) (F_need_words : DCal Pg w K mg base 1 "need_words" (S_need_words A) []) (M_Turns_begin : DMet Pg w K mg base 7 A.CTU "begin" (S_Turns_begin A) []) (M_Turns_bound_row : DMet Pg w K mg base 4 A.CTU "bound_row" (S_Turns_bound_row A) []) (M_Turns_visit_row : DMet Pg w K mg base 8 A.CTU "visit_row" (S_Turns_visit_row A) []) (M_Gate_kept : DMet Pg w K mg base 2 A.CG "kept" (S_Gate_kept A) []) (M_Gate_names : DMet Pg w K mg base 1 A.CG "names" (S_Gate_names A) []) : FnOk Pg w K mg base (L2.CX Pg w) 9 f fd ["self", "words"] (toSp K (S_Turns_answer_to A)) := by
  refine fn_data F sc_Turns_answer_to (fun ds μ kd ke h => ?_) (fun cdv A_ outer s H E c ow ds μ kd ke h => ?_)
  · obtain ⟨f, s, ws, rfl, T0, ⟨⟨hwl, hww, hwn⟩, hal⟩, _, hke, hk⟩ := h; rfl
  · obtain ⟨f, s, ws, rfl, T0, ⟨⟨hwl, hww, hwn⟩, hal⟩, _, hke, hk⟩ := h
    have hwp : 0 < ws.length := List.length_pos_iff.mpr hwn
    refine jb_cons (js_if (jt_inT (je_ix (je_name 1 rfl rfl (je_int (d_ixW 0 rfl (by omega) ?_))))))
    refine je_tup ?_
    refine ja_cons ?_
    refine je_str ?_
    refine ja_cons ?_
    refine je_str ?_
    refine ja_nil ?_
    refine ⟨by walk_at "lens", ?_⟩
    refine d_inT ["own", "common"] rfl ?_
    refine ⟨_, rfl, fun h1 => ?_, fun h1 => ?_⟩
    · have hP : at_ ws 0 ∈ (["own", "common"] : List Str) := of_decide_eq_true h1
      have hra : rowA s ws = boundA s ws := if_pos hP
      refine jb_cons (js_ret ?_)
      refine je_meth c ?_
      refine je_name 0 rfl rfl ?_
      refine ⟨_, _, _, _, _, .obj T0.obj, tuF_no _ _ (by decide +kernel) (by decide +kernel), M_Turns_bound_row, by decide, ja_cons (je_name 1 rfl rfl (ja_nil ?_))⟩
      refine ⟨f, s, ws, rfl, T0, ⟨⟨hwl, hww, hwn⟩, hal⟩, hP, fun r s' e f' μ' nx => hke r s' (hra.trans e) f' μ' nx, fun z s' e f' μ' nx => hk z s' (hra.trans e) f' μ' nx⟩
    refine jb_nil ?_
    have hn1 : ¬ at_ ws 0 ∈ (["own", "common"] : List Str) := of_decide_eq_false h1
    refine jb_cons (js_if (jt_inT (je_ix (je_name 1 rfl rfl (je_int (d_ixW 0 rfl (by omega) ?_))))))
    refine je_tup ?_
    refine ja_cons ?_
    refine je_str ?_
    refine ja_cons ?_
    refine je_str ?_
    refine ja_nil ?_
    refine ⟨by walk_at "lens", ?_⟩
    refine d_inT ["ask", "visit"] rfl ?_
    refine ⟨_, rfl, fun h2 => ?_, fun h2 => ?_⟩
    · have hP : at_ ws 0 ∈ (["ask", "visit"] : List Str) := of_decide_eq_true h2
      have hra : rowA s ws = visitA s ws := (if_neg hn1).trans (if_pos hP)
      refine jb_cons (js_ret ?_)
      refine je_meth c ?_
      refine je_name 0 rfl rfl ?_
      refine ⟨_, _, _, _, _, .obj T0.obj, tuF_no _ _ (by decide +kernel) (by decide +kernel), M_Turns_visit_row, by decide, ja_cons (je_name 1 rfl rfl (ja_nil ?_))⟩
      refine ⟨f, s, ws, rfl, T0, ⟨⟨hwl, hww, hwn⟩, hal⟩, hP, fun r s' e f' μ' nx => hke r s' (hra.trans e) f' μ' nx, fun z s' e f' μ' nx => hk z s' (hra.trans e) f' μ' nx⟩
    refine jb_nil ?_
    have hn2 : ¬ at_ ws 0 ∈ (["ask", "visit"] : List Str) := of_decide_eq_false h2
    have hra : rowA s ws = restA s ws := (if_neg hn1).trans (if_neg hn2)
    refine jb_cons (js_if (jt_notinT (je_ix (je_name 1 rfl rfl (je_int (d_ixW 0 rfl (by omega) ?_))))))
    refine je_tup ?_
    refine ja_cons ?_
    refine je_str ?_
    refine ja_cons ?_
    refine je_str ?_
    refine ja_nil ?_
    refine ⟨by walk_at "lens", ?_⟩
    refine d_notinT ["names", "kept"] rfl ?_
    refine ⟨_, rfl, fun h3 => ?_, fun h3 => ?_⟩
    · refine jb_cons (js_raise c T.x_BadRow ?_)
      exact hke .bad s (by rw [hra]; unfold restA; rw [if_pos h3]) f _ (Nxt.ext T0 (ExtM.refl _))
    refine jb_nil ?_
    have hn3 : ¬ (!decide (at_ ws 0 ∈ (["names", "kept"] : List Str))) = true := by rw [h3]; decide
    refine jb_cons (js_expr ?_)
    refine je_call c F_need_words (by decide) (ja_cons (je_name 1 rfl rfl (ja_cons (je_int (ja_nil ?_)))))
    refine ⟨ws, _, rfl, hwl, fun hw4 => ?_, fun hw4 => hke .bad s (by rw [hra]; unfold restA; rw [if_neg hn3, if_pos (by omega)]) f _ (Nxt.ext T0 (ExtM.refl _))⟩
    replace hw4 : ws.length = 1 := by omega
    refine jb_cons (js_expr ?_)
    refine je_meth0 c ?_
    refine je_name 0 rfl rfl ?_
    refine ⟨_, _, _, _, _, .obj T0.obj, tuF_no _ _ (by decide +kernel) (by decide +kernel), M_Turns_begin, by decide, ?_⟩
    refine ⟨f, s, rfl, T0, fun f1 μ1 x nx hx => ?_⟩
    obtain ⟨g, pd, cas, pas⟩ := x
    have T1 := nx.at_
    have htu := nx.tu
    obtain ⟨hs1, G1, hap⟩ := T1.gt _ hx
    obtain ⟨bg1, bg2, bg3, bg4⟩ := begin_g s
    have hgd : f1.gd = .obj g := by unfold TF.gd; rw [hx]
    have T1o := T1.obj
    rw [hgd] at T1o
    rw [← htu]
    have hal1 : s.begin.g.all.length ≤ 63 := by rw [bg1]; exact hal
    have ok1 := T1.ok
    have hpl2 := ok1.pl2
    have hpas : pas.length = s.begin.g.people.length := by have := congrArg List.length (ppl_fst G1.ppl); rw [List.length_map, List.length_map] at this; exact this
    refine jb_cons (js_if (jt_eq c (je_ix (je_name 1 rfl rfl (je_int (d_ixW 0 rfl (by omega) ?_))))))
    refine je_str (d_eqS ⟨_, rfl, fun ha => ?_, fun ha => ?_⟩)
    · have hat : at_ ws 0 = "kept" := of_decide_eq_true ha
      refine jb_cons (js_ret ?_)
      refine je_cT call_str_int T.m_str PyProof.Rows.boot_str (ja_cons ?_)
      refine je_meth0 c (je_fld (je_name 0 rfl rfl ⟨_, _, _, .obj T1o, T.cl_Turns, T.na_Turns_gate, tuF_gate .., ?_⟩))
      refine ⟨_, _, _, _, _, .obj G1.obj, gtF_no _ _ _ _ _ (by decide +kernel) (by decide +kernel) (by decide +kernel) (by decide +kernel), M_Gate_kept, by decide, ?_⟩
      refine ⟨g, _, _, _, _, _, pd, cas, pas, rfl, G1, ?_⟩
      refine ja_nil (d_strI (small_log (keptOf_nonneg _ _ _ _) (kept_hi ok1 hal1)) ?_)
      exact hk _ s.begin (by rw [hra]; unfold restA; rw [if_neg hn3, if_neg (not_not_intro hw4), if_pos hat]) f1 μ1 nx
    refine jb_nil ?_
    have hat : ¬ at_ ws 0 = "kept" := of_decide_eq_false ha
    have hre : rowA s ws = (.inr (namesT (sortN (s.begin.g.people.map (·.1)))), s.begin) := by rw [hra]; unfold restA; rw [if_neg hn3, if_neg (not_not_intro hw4), if_neg hat]
    refine jb_cons (js_ret ?_)
    refine je_orS ?_
    refine je_join ?_
    refine je_str ?_
    refine ⟨DTy.str, ?_⟩
    refine ja_cons ?_
    refine je_meth0 c (je_fld (je_name 0 rfl rfl ⟨_, _, _, .obj T1o, T.cl_Turns, T.na_Turns_gate, tuF_gate .., ?_⟩))
    refine ⟨_, _, _, _, _, .obj G1.obj, gtF_no _ _ _ _ _ (by decide +kernel) (by decide +kernel) (by decide +kernel) (by decide +kernel), M_Gate_names, by decide, ?_⟩
    refine ⟨g, _, _, _, _, _, pd, cas, pas, rfl, G1, by omega, fun ys p hy1 hy2 hp => ?_⟩
    refine ja_nil ?_
    have hys := names_len ok1 hal1 hy1
    rw [sortN_eq hy1 hy2] at hre
    have nx2 := nx.trans (Nxt.ext T1 (ext_newS (o := .lst (ys.map Dv.str)) hp))
    refine d_join ys (.obj updM_same) hys ?_
    refine ⟨_, rfl, join_size ys hys, fun hz => ?_, fun hz => ?_⟩
    · exact hk _ s.begin (by rw [hre]; unfold namesT; rw [if_neg hz]) f1 _ nx2
    · refine je_one (je_str ?_)
      exact hk _ s.begin (by rw [hre]; unfold namesT; rw [if_pos hz]) f1 _ nx2
theorem sc_play : FnScope ["text", "turns", "found", "row", "words", "e", "word"] ["text"] (defScope s_play) := ⟨rfl, rfl, rfl, by decide +kernel, rfl, by decide +kernel, by decide +kernel⟩
theorem ok_play {f : Addr} {fd : FuncData} (F : Fun K "play" "play" s_play f fd) (T : Txt K mg A) (F_Turns : DMak Pg w K mg base 1 "Turns" A.CTU (S_Turns_init A) []) (F_name_of : DCalQ Pg w K mg base 1 "name_of" (S_name_of A)) (M_Turns_answer_to : DMet Pg w K mg base 9 A.CTU "answer_to" (S_Turns_answer_to A) []) : FnOk Pg w K mg base (L2.CX Pg w) 10 f fd ["text"] (toSp K (S_play A)) := by
  refine fn_data F sc_play (fun ds μ kd ke h => ?_) (fun cdv A_ outer s H E c ow ds μ kd ke h => ?_)
  · obtain ⟨z, rfl, hzl, hz7, hzv, hk⟩ := h; rfl
  · obtain ⟨z, rfl, hzl, hz7, hzv, hk⟩ := h
    refine jb_cons (js_set 1 c rfl ?_)
    refine je_make0 c F_Turns (by decide) ?_
    refine fun tu htu => ⟨tu, rfl, updM_same, fun f μ1 T1 e1 fr1 fs1 => ⟨rfl, .inl ?_⟩⟩
    subst e1
    have ext1 : ExtM μ μ1 := fun a o h => fr1 a o ((updM_ne (ne_ofM h htu)).trans h) (ne_ofM h htu)
    have new1 : ∀ b, f.has b → μ b = none := fun b hb => by
      rcases fs1 b hb with e | e
      · rw [e]; exact htu
      · by_cases q : b = f.tu
        · rw [q]; exact htu
        · rw [updM_ne q] at e; exact e
    refine jb_cons (js_set 2 c rfl ?_)
    refine je_lstM (ja_nil ⟨by walk_at "lens", fun fa hfa => ?_⟩)
    refine jb_cons (js_forT 3 c.calm ow (pg_name (i := 3) c.nd rfl (by first | exact Or.inl rfl | exact Or.inr rfl)) ?_)
    refine ji_seq ?_
    refine je_split ?_
    refine je_name 0 rfl rfl ?_
    refine ⟨DTy.str, ?_⟩
    refine ja_cons ?_
    refine je_str ?_
    refine ja_nil ?_
    refine d_split (by decide +kernel) (by rw [sizeLine_eq]; omega) ?_
    refine ⟨_, by walk_at "sq", ?_⟩
    refine ⟨fun j e μ' => ∃ f1 st acc, e = [some (.str z), some (.obj f.tu), some (.obj fa), none, none, none, none] ∧ PlayI A μ z fa f.tu j μ' f1 st acc, ?_, fun _ _ _ _ => .lst _, fun j x e μ' hx iv => ?_, fun e μ' iv n' hle => ?_⟩
    · exact ⟨_, LeE.refl _, f, tn0, [], rfl, PlayI.start T1 hfa ext1 new1⟩
    ·
      obtain ⟨f1, st, acc, rfl, P1⟩ := iv
      have hx' : ((Txt.split z "\n").map Dv.str)[j]? = some x := hx
      rw [List.getElem?_map] at hx'
      obtain ⟨row, hrw, rfl⟩ := Option.map_eq_some_iff.mp hx'
      have hrow : (rowsW z)[j]? = some (RowW row) := by unfold rowsW; rw [List.getElem?_map, hrw]; rfl
      obtain ⟨r1, r2, r3⟩ := row_facts hzl hz7 (List.mem_of_getElem? hrw)
      have hrl : (RowW row).length < 2000000 := by unfold RowW; have := List.length_filter_le (fun w : Str => decide (w ≠ "")) (Txt.split row " "); omega
      have hjl : j < 1000001 := by
        have h1 := (List.getElem?_eq_some_iff.mp hrw).1
        have h2 := sp_len 10 (sgn z)
        rw [lineS, split_sp z (by decide), List.length_map] at h1
        rw [sgn_len] at h2
        omega
      refine jb_cons (js_setLcG (x := "word") 6 4 c.calm c.nd rfl rfl (sw_true rfl rfl rfl (by decide +kernel)) (blkOk_by (N := ["text", "turns", "found", "row", "words", "e", "word"]) (sc := defScope s_play) (by decide +kernel)) (fun _ _ _ _ _ => pg_name (i := 6) c.nd rfl (Or.inl rfl)) ?_)
      refine ji_seq ?_
      refine je_split ?_
      refine je_name 3 rfl rfl ?_
      refine ⟨DTy.str, ?_⟩
      refine ja_cons ?_
      refine je_str ?_
      refine ja_nil ?_
      refine d_split (by decide +kernel) (by rw [sizeLine_eq]; omega) ?_
      refine ⟨_, by walk_at "sq", ?_⟩
      refine lc_map Dv.str (Txt.split row " ") (fun w => if (!decide (w = "")) = true then some (Dv.str w) else none) rfl (.lst _) (by rw [sizeLine_eq]; omega) (fun j x μ' hx hμ => ?_) ?_
      ·
        intro s1 H1 C1 cl1 fp1
        refine jt_ne c.blk ?_
        refine je_name 6 rfl rfl ?_
        refine je_str ?_
        first | refine d_neI ?_ | refine d_neNil Enc.int (by decide) _ (.inr rfl) ?_ | refine d_neNil encV (by decide) _ (.inl rfl) ?_ | refine d_neS ?_ | refine d_neB ?_ | refine d_neNI ?_
        refine ⟨_, rfl, ?_⟩
        refine ⟨fun h1 s2 H2 C2 cl2 fp2 => ?_, fun h1 => ⟨(if_neg (by rw [h1]; decide)).symm, rfl⟩⟩
        refine je_name 6 rfl rfl ?_
        exact ⟨(if_pos h1).symm, rfl⟩
      rw [fm_row]
      refine jb_cons (js_if ?_)
      refine jt_ne c ?_
      refine je_name 4 rfl rfl ?_
      refine (je_lst ?_ : _)
      refine ja_nil ?_
      refine ⟨by walk_at "lens", ?_⟩
      refine d_neStrs (RowW row) [] (.lst _) (.lst _) (fun w hw => (r3 w (List.mem_filter.mp hw).1).2) (fun w hw => nomatch hw) ?_
      refine ⟨_, rfl, ?_⟩
      refine ⟨fun h2 => ?_, fun h2 => ?_⟩
      ·
        have hne : RowW row ≠ [] := by simpa using h2
        have T1 := P1.at_
        have hv := P1.small hzv
        have hacc := P1.len
        refine jb_cons (js_try 5 c rfl ⟨rfl, by decide, .inl T.x_GateError.g⟩ ?_)
        intro pq1 xe1 W1 c1 ow1
        refine jb_cons (js_expr ?_)
        refine je_append ?_
        refine je_name 2 rfl rfl ?_
        refine ⟨_, rfl, ⟨_, P1.lst⟩, ?_⟩
        refine je_meth c1 ?_
        refine je_name 1 rfl rfl ?_
        rw [← P1.tu]
        refine ⟨_, _, _, _, _, .obj T1.obj, tuF_no _ _ (by decide +kernel) (by decide +kernel), M_Turns_answer_to, by decide, ?_⟩
        refine ja_cons (je_name 4 rfl rfl (ja_nil ?_))
        refine ⟨f1, st, RowW row, rfl, T1, ⟨⟨hrl, fun w hw => by have := (r3 w (List.mem_filter.mp hw).1).1; omega, hne⟩, hv⟩, trivial, fun r s' e1 f2 μ2 nx => ?_, fun zz s' e1 f2 μ2 nx => ?_⟩
        · obtain ⟨g1, P2⟩ := P1.step hrow hne e1 nx
          refine ⟨true, by rcases r with _ | _ | (_ | _ | _ | _) <;> first | exact T.ex_BadRow_GateError | exact T.ex_NoBound_GateError | exact T.ex_NoName_GateError | exact T.ex_NoMoment_GateError | exact T.ex_Late_GateError | exact T.ex_NoCost_GateError, fun _ => ⟨_, rfl, fun zx pq => ?_⟩, fun z => nomatch z⟩
          refine jb_cons (js_expr ?_)
          refine je_append ?_
          refine je_name 2 rfl rfl ?_
          refine ⟨_, rfl, ⟨_, g1⟩, ?_⟩
          refine je_add ?_
          refine je_str ?_
          refine je_callQ (roomS c.room) F_name_of (ja_cons (je_name 5 rfl rfl (ja_nil ?_)))
          refine ⟨r, rfl, ?_⟩
          refine d_addS (txt_small r) ?_
          refine ⟨_, g1, by rw [List.length_map, sizeLine_eq]; omega, ?_⟩
          refine jb_nil (jb_nil (jb_nil ?_))
          rw [P1.tu]
          refine ⟨_, ?_, f2, s', _, rfl, P2⟩
          walk_at "le"
        · obtain ⟨g1, P2⟩ := P1.step hrow hne e1 nx
          refine ⟨_, g1, by rw [List.length_map, sizeLine_eq]; omega, ?_⟩
          refine jb_nil (jb_nil (jb_nil ?_))
          rw [P1.tu]
          refine ⟨_, ?_, f2, s', _, rfl, P2⟩
          walk_at "le"
        
        
      refine jb_nil ?_
      refine jb_nil ?_
      have hno : RowW row = [] := by simpa using h2
      rw [hno] at hrow
      refine ⟨_, ?_, f1, st, acc, rfl, P1.skip hrow⟩
      rw [hno]
      walk_at "le"
    obtain ⟨f1, st, acc, rfl, P1⟩ := iv
    refine JB.le ?_ hle
    obtain ⟨hd1, hd2⟩ := P1.done (by unfold rowsW; rw [List.length_map]; exact List.length_map ..)
    refine jb_freeze 2 rfl P1.lst ?_
    rw [hd1]
    refine jb_cons (js_ret ?_)
    refine je_name 2 rfl rfl ?_
    exact hk _ hd2
theorem sc__law_cell : FnScope ["_law_script", "_law_k", "_law_cell_here", "_law_more"] ["_law_script", "_law_k"] (defScope s__law_cell) := ⟨rfl, rfl, rfl, by decide +kernel, rfl, by decide +kernel, by decide +kernel⟩
theorem ok__law_cell {f : Addr} {fd : FuncData} (F : Fun K "_law_cell" "_law_cell" s__law_cell f fd) (T : Txt K mg A) : FnOk Pg w K mg base (L2.CX Pg w) 1 f fd ["_law_script", "_law_k"] (toSp K (S__law_cell A)) := by
  refine fn_data F sc__law_cell (fun ds μ kd ke h => ?_) (fun cdv A_ outer s H E c ow ds μ kd ke h => ?_)
  · obtain ⟨ns, _law_k, rfl, hns, hk⟩ := h; rfl
  · obtain ⟨ns, _law_k, rfl, hns, hk⟩ := h
    refine jb_cons (js_set 2 c rfl ?_)
    refine je_add ?_
    refine je_mul ?_
    refine je_int ?_
    refine je_name 1 rfl rfl ?_
    first | refine d_mulI (by walk_at "cm") ?_ | refine d_mulL1 (by constructor) (by omega) ?_
    refine je_int ?_
    first | refine d_addI ?_ | refine d_addL (by constructor) (by constructor) (by walk_at "lens") ?_ | refine d_addS (by walk_at "lens") ?_ | refine d_addT (by walk_at "lens") ?_
    refine jb_cons (js_if ?_)
    refine jt_ne c ?_
    refine je_name 0 rfl rfl ?_
    refine (je_lst ?_ : _)
    refine ja_nil ?_
    refine ⟨by walk_at "lens", ?_⟩
    first | refine d_neI ?_ | refine d_neNil Enc.int (by decide) _ (.inr rfl) ?_ | refine d_neNil encV (by decide) _ (.inl rfl) ?_ | refine d_neS ?_ | refine d_neB ?_ | refine d_neNI ?_
    refine ⟨_, rfl, ?_⟩
    refine ⟨fun h1 => ?_, fun h1 => ?_⟩
    · have hne : ¬ ns = [] := by simpa using h1
      have hpos : 0 < ns.length := List.length_pos_iff.mpr hne
      refine jb_cons (js_set 2 c rfl ?_)
      refine je_add ?_
      refine je_add ?_
      refine je_name 2 rfl rfl ?_
      refine je_mul ?_
      refine je_ix ?_
      refine je_name 0 rfl rfl ?_
      refine je_mod ?_
      refine je_name 1 rfl rfl ?_
      refine je_cB call_lenA T.m_len PySem.boot_len ?_
      refine ja_cons ?_
      refine je_name 0 rfl rfl ?_
      refine ja_nil ?_
      first | refine d_lenM (by walk_at "sq") ?_ | refine d_lenL (by walk_at "sq") ?_ | refine d_lenT ?_ | refine d_lenS (by walk_at "lens") ?_
      refine d_modI (by first | decide | omega) ?_
      refine d_ixInts ns (.fro _) (Int.emod_nonneg _ (by omega)) (Int.emod_lt_of_pos _ (by omega)) ?_
      refine je_int ?_
      first | refine d_mulI (by walk_at "cm") ?_ | refine d_mulL1 (by constructor) (by omega) ?_
      first | refine d_addI ?_ | refine d_addL (by constructor) (by constructor) (by walk_at "lens") ?_ | refine d_addS (by walk_at "lens") ?_ | refine d_addT (by walk_at "lens") ?_
      refine je_mul ?_
      refine je_int ?_
      refine je_name 1 rfl rfl ?_
      first | refine d_mulI (by walk_at "cm") ?_ | refine d_mulL1 (by constructor) (by omega) ?_
      first | refine d_addI ?_ | refine d_addL (by constructor) (by constructor) (by walk_at "lens") ?_ | refine d_addS (by walk_at "lens") ?_ | refine d_addT (by walk_at "lens") ?_
      refine jb_cons (js_set 2 c rfl ?_)
      refine je_add ?_
      refine je_name 2 rfl rfl ?_
      refine je_mul ?_
      refine je_fdiv ?_
      refine je_name 1 rfl rfl ?_
      refine je_cB call_lenA T.m_len PySem.boot_len ?_
      refine ja_cons ?_
      refine je_name 0 rfl rfl ?_
      refine ja_nil ?_
      first | refine d_lenM (by walk_at "sq") ?_ | refine d_lenL (by walk_at "sq") ?_ | refine d_lenT ?_ | refine d_lenS (by walk_at "lens") ?_
      refine d_fdivI (by walk_at "cd") ?_
      refine je_int ?_
      first | refine d_mulI (by walk_at "cm") ?_ | refine d_mulL1 (by constructor) (by omega) ?_
      first | refine d_addI ?_ | refine d_addL (by constructor) (by constructor) (by walk_at "lens") ?_ | refine d_addS (by walk_at "lens") ?_ | refine d_addT (by walk_at "lens") ?_
      refine jb_nil ?_
      refine jb_cons (js_set 3 c rfl ?_)
      refine je_mod ?_
      refine je_name 2 rfl rfl ?_
      refine je_int ?_
      refine d_modI (by first | decide | omega) ?_
      refine jb_cons (js_set 3 c rfl ?_)
      refine je_mod ?_
      refine je_mul ?_
      refine je_name 3 rfl rfl ?_
      refine je_name 3 rfl rfl ?_
      first | refine d_mulI (by walk_at "cm") ?_ | refine d_mulL1 (by constructor) (by omega) ?_
      refine je_int ?_
      refine d_modI (by first | decide | omega) ?_
      refine jb_cons (js_ret ?_)
      refine je_mod ?_
      refine je_add ?_
      refine je_add ?_
      refine je_mul ?_
      refine je_name 3 rfl rfl ?_
      refine je_name 3 rfl rfl ?_
      first | refine d_mulI (by walk_at "cm") ?_ | refine d_mulL1 (by constructor) (by omega) ?_
      refine je_mul ?_
      refine je_int ?_
      refine je_name 3 rfl rfl ?_
      first | refine d_mulI (by walk_at "cm") ?_ | refine d_mulL1 (by constructor) (by omega) ?_
      first | refine d_addI ?_ | refine d_addL (by constructor) (by constructor) (by walk_at "lens") ?_ | refine d_addS (by walk_at "lens") ?_ | refine d_addT (by walk_at "lens") ?_
      refine je_name 1 rfl rfl ?_
      first | refine d_addI ?_ | refine d_addL (by constructor) (by constructor) (by walk_at "lens") ?_ | refine d_addS (by walk_at "lens") ?_ | refine d_addT (by walk_at "lens") ?_
      refine je_int ?_
      refine d_modI (by first | decide | omega) ?_
      rw [cell_ne hne] at hk; exact hk
    have hne : ns = [] := by simpa using h1
    refine jb_nil ?_
    refine jb_cons (js_set 3 c rfl ?_)
    refine je_mod ?_
    refine je_name 2 rfl rfl ?_
    refine je_int ?_
    refine d_modI (by first | decide | omega) ?_
    refine jb_cons (js_set 3 c rfl ?_)
    refine je_mod ?_
    refine je_mul ?_
    refine je_name 3 rfl rfl ?_
    refine je_name 3 rfl rfl ?_
    first | refine d_mulI (by walk_at "cm") ?_ | refine d_mulL1 (by constructor) (by omega) ?_
    refine je_int ?_
    refine d_modI (by first | decide | omega) ?_
    refine jb_cons (js_ret ?_)
    refine je_mod ?_
    refine je_add ?_
    refine je_add ?_
    refine je_mul ?_
    refine je_name 3 rfl rfl ?_
    refine je_name 3 rfl rfl ?_
    first | refine d_mulI (by walk_at "cm") ?_ | refine d_mulL1 (by constructor) (by omega) ?_
    refine je_mul ?_
    refine je_int ?_
    refine je_name 3 rfl rfl ?_
    first | refine d_mulI (by walk_at "cm") ?_ | refine d_mulL1 (by constructor) (by omega) ?_
    first | refine d_addI ?_ | refine d_addL (by constructor) (by constructor) (by walk_at "lens") ?_ | refine d_addS (by walk_at "lens") ?_ | refine d_addT (by walk_at "lens") ?_
    refine je_name 1 rfl rfl ?_
    first | refine d_addI ?_ | refine d_addL (by constructor) (by constructor) (by walk_at "lens") ?_ | refine d_addS (by walk_at "lens") ?_ | refine d_addT (by walk_at "lens") ?_
    refine je_int ?_
    refine d_modI (by first | decide | omega) ?_
    rw [cell_nil hne] at hk; exact hk
theorem sc__law_bound : FnScope ["_law_cell_here", "_law_scale_here", "_law_flow"] ["_law_cell_here", "_law_scale_here"] (defScope s__law_bound) := ⟨rfl, rfl, rfl, by decide +kernel, rfl, by decide +kernel, by decide +kernel⟩
theorem ok__law_bound {f : Addr} {fd : FuncData} (F : Fun K "_law_bound" "_law_bound" s__law_bound f fd) (T : Txt K mg A) : FnOk Pg w K mg base (L2.CX Pg w) 1 f fd ["_law_cell_here", "_law_scale_here"] (toSp K (S__law_bound A)) := by
  refine fn_data F sc__law_bound (fun ds μ kd ke h => ?_) (fun cdv A_ outer s H E c ow ds μ kd ke h => ?_)
  · obtain ⟨_law_cell_here, _law_scale_here, rfl, h0, h1_, h2_, hk⟩ := h; rfl
  · obtain ⟨_law_cell_here, _law_scale_here, rfl, h0, h1_, h2_, hk⟩ := h
    have q1 : 0 ≤ ([1, _law_scale_here] : List Int).getD (_law_cell_here / 12 % 2).toNat 0 ∧ ([1, _law_scale_here] : List Int).getD (_law_cell_here / 12 % 2).toNat 0 ≤ 40000000 := getD_all (P := fun x => 0 ≤ x ∧ x ≤ 40000000) (by intro x hx; simp only [List.mem_cons, List.not_mem_nil, or_false] at hx; rcases hx with rfl | rfl <;> omega) (by simp; omega)
    have q2 : 1 ≤ ([6, 40] : List Int).getD (_law_cell_here / 3200 % 2).toNat 0 ∧ ([6, 40] : List Int).getD (_law_cell_here / 3200 % 2).toNat 0 ≤ 40 := getD_all (P := fun x => 1 ≤ x ∧ x ≤ 40) (by decide) (by simp; omega)
    refine jb_cons (js_if ?_)
    refine jt_eq c ?_
    refine je_mod ?_
    refine je_name 0 rfl rfl ?_
    refine je_int ?_
    refine d_modI (by first | decide | omega) ?_
    refine je_int ?_
    first | refine d_eqI ?_ | refine d_eqS ?_ | refine d_eqB ?_ | refine d_eqNI ?_
    refine ⟨_, rfl, ?_⟩
    refine ⟨fun h1 => ?_, fun h1 => ?_⟩
    ·
      refine jb_cons (js_set 2 c rfl ?_)
      refine je_mul ?_
      refine je_ix ?_
      refine (je_lst ?_ : _)
      refine ja_cons ?_
      refine je_int ?_
      refine ja_cons ?_
      refine je_int ?_
      refine ja_cons ?_
      refine je_int ?_
      refine ja_cons ?_
      refine je_int ?_
      refine ja_cons ?_
      refine je_int ?_
      refine ja_cons ?_
      refine je_int ?_
      refine ja_nil ?_
      refine ⟨by walk_at "lens", ?_⟩
      refine je_mod ?_
      refine je_fdiv ?_
      refine je_name 0 rfl rfl ?_
      refine je_int ?_
      refine d_fdivI (by walk_at "cd") ?_
      refine je_int ?_
      refine d_modI (by first | decide | omega) ?_
      refine d_ixInts [0, 1, 2, 3, 1, 2] (.lst _) (by walk_at "ix") (by walk_at "ix") ?_
      refine je_ix ?_
      refine (je_lst ?_ : _)
      refine ja_cons ?_
      refine je_int ?_
      refine ja_cons ?_
      refine je_name 1 rfl rfl ?_
      refine ja_nil ?_
      refine ⟨by walk_at "lens", ?_⟩
      refine je_mod ?_
      refine je_fdiv ?_
      refine je_name 0 rfl rfl ?_
      refine je_int ?_
      refine d_fdivI (by walk_at "cd") ?_
      refine je_int ?_
      refine d_modI (by first | decide | omega) ?_
      refine d_ixInts [1, _law_scale_here] (.lst _) (by walk_at "ix") (by walk_at "ix") ?_
      first | refine d_mulI (by walk_at "cm") ?_ | refine d_mulL1 (by constructor) (by omega) ?_
      refine jb_cons (js_ret ?_)
      refine je_tup ?_
      refine ja_cons ?_
      refine je_str ?_
      refine ja_cons ?_
      refine je_mul ?_
      refine je_add ?_
      refine je_int ?_
      refine je_mod ?_
      refine je_fdiv ?_
      refine je_name 0 rfl rfl ?_
      refine je_int ?_
      refine d_fdivI (by walk_at "cd") ?_
      refine je_int ?_
      refine d_modI (by first | decide | omega) ?_
      first | refine d_addI ?_ | refine d_addL (by constructor) (by constructor) (by walk_at "lens") ?_ | refine d_addS (by walk_at "lens") ?_ | refine d_addT (by walk_at "lens") ?_
      refine je_name 1 rfl rfl ?_
      first | refine d_mulI (by walk_at "cm") ?_ | refine d_mulL1 (by constructor) (by omega) ?_
      refine ja_cons ?_
      refine je_cB (call_min2 c.calm) T.m_min PyProof.Rows.boot_min ?_
      refine ja_cons ?_
      refine je_name 2 rfl rfl ?_
      refine ja_cons ?_
      refine je_pow ?_
      refine je_int ?_
      refine je_int ?_
      refine d_powE (v := 1000000000) ⟨by decide, by decide, by decide⟩ rfl ?_
      refine ja_nil ?_
      refine d_min2 ?_
      refine ja_nil ?_
      refine ⟨by walk_at "lens", ?_⟩
      rw [show m_law_bound _law_cell_here _law_scale_here = _ from if_pos (of_decide_eq_true h1)] at hk; exact hk
    refine jb_nil ?_
    refine jb_cons (js_ret ?_)
    refine je_tup ?_
    refine ja_cons ?_
    refine je_str ?_
    refine ja_cons ?_
    refine je_add ?_
    refine je_mul ?_
    refine je_add ?_
    refine je_int ?_
    refine je_mod ?_
    refine je_fdiv ?_
    refine je_name 0 rfl rfl ?_
    refine je_int ?_
    refine d_fdivI (by walk_at "cd") ?_
    refine je_int ?_
    refine d_modI (by first | decide | omega) ?_
    first | refine d_addI ?_ | refine d_addL (by constructor) (by constructor) (by walk_at "lens") ?_ | refine d_addS (by walk_at "lens") ?_ | refine d_addT (by walk_at "lens") ?_
    refine je_name 1 rfl rfl ?_
    first | refine d_mulI (by walk_at "cm") ?_ | refine d_mulL1 (by constructor) (by omega) ?_
    refine je_mod ?_
    refine je_fdiv ?_
    refine je_name 0 rfl rfl ?_
    refine je_int ?_
    refine d_fdivI (by walk_at "cd") ?_
    refine je_int ?_
    refine d_modI (by first | decide | omega) ?_
    first | refine d_addI ?_ | refine d_addL (by constructor) (by constructor) (by walk_at "lens") ?_ | refine d_addS (by walk_at "lens") ?_ | refine d_addT (by walk_at "lens") ?_
    refine ja_cons ?_
    refine je_add ?_
    refine je_int ?_
    refine je_mod ?_
    refine je_fdiv ?_
    refine je_name 0 rfl rfl ?_
    refine je_int ?_
    refine d_fdivI (by walk_at "cd") ?_
    refine je_ix ?_
    refine (je_lst ?_ : _)
    refine ja_cons ?_
    refine je_int ?_
    refine ja_cons ?_
    refine je_int ?_
    refine ja_nil ?_
    refine ⟨by walk_at "lens", ?_⟩
    refine je_mod ?_
    refine je_fdiv ?_
    refine je_name 0 rfl rfl ?_
    refine je_int ?_
    refine d_fdivI (by walk_at "cd") ?_
    refine je_int ?_
    refine d_modI (by first | decide | omega) ?_
    refine d_ixInts [6, 40] (.lst _) (by walk_at "ix") (by walk_at "ix") ?_
    refine d_modI (by first | decide | omega) ?_
    first | refine d_addI ?_ | refine d_addL (by constructor) (by constructor) (by walk_at "lens") ?_ | refine d_addS (by walk_at "lens") ?_ | refine d_addT (by walk_at "lens") ?_
    refine ja_nil ?_
    refine ⟨by walk_at "lens", ?_⟩
    rw [show m_law_bound _law_cell_here _law_scale_here = _ from if_neg (of_decide_eq_false h1)] at hk; exact hk
theorem sc__law_made : FnScope ["_law_bound_here"] ["_law_bound_here"] (defScope s__law_made) := ⟨rfl, rfl, rfl, by decide +kernel, rfl, by decide +kernel, by decide +kernel⟩
theorem ok__law_made {f : Addr} {fd : FuncData} (F : Fun K "_law_made" "_law_made" s__law_made f fd) (T : Txt K mg A) (F_Window : DMak Pg w K mg base 2 "Window" A.CW (S_Window_init A) []) (F_Jar : DMak Pg w K mg base 2 "Jar" A.CJ (S_Jar_init A) []) : FnOk Pg w K mg base (L2.CX Pg w) 4 f fd ["_law_bound_here"] (toSp K (S__law_made A)) := by
  refine fn_data F sc__law_made (fun ds μ kd ke h => ?_) (fun cdv A_ outer s H E c ow ds μ kd ke h => ?_)
  · obtain ⟨b, rfl, ok, hk⟩ := h; rfl
  · obtain ⟨b, rfl, ok, hk⟩ := h
    rcases b with ⟨bs, bf⟩ | ⟨bs, bf⟩
    ·
      skip
      refine jb_cons (js_if ?_)
      refine jt_eq c ?_
      refine je_ix ?_
      refine je_name 0 rfl rfl ?_
      refine je_int ?_
      first | refine d_ixT rfl ?_ | refine d_ixB0 ?_
      refine je_str ?_
      first | refine d_eqI ?_ | refine d_eqS ?_ | refine d_eqB ?_ | refine d_eqNI ?_
      refine ⟨_, rfl, ?_⟩
      refine ⟨fun h1 => ?_, fun h1 => absurd h1 (by decide +kernel)⟩
      refine jb_cons (js_ret ?_)
      refine je_make c F_Jar (by decide) ?_
      refine ja_cons ?_
      refine je_ix ?_
      refine je_name 0 rfl rfl ?_
      refine je_int ?_
      first | refine d_ixT rfl ?_ | refine d_ixB1 ?_
      refine ja_cons ?_
      refine je_ix ?_
      refine je_name 0 rfl rfl ?_
      refine je_int ?_
      first | refine d_ixT rfl ?_ | refine d_ixB2 ?_
      refine ja_nil ?_
      refine fun a_ ha_ => ⟨_, _, _, some bs, some bf, rfl, updM_same, .int _, .int _, fun _ => ⟨rfl, .inr ⟨_, _, updM_same, ?_⟩⟩, fun g => absurd g (by rw [show (goodB (some bs) 1 1000000000000000 && goodB (some bf) 0 1000000000) = true from (bdOk_iff (.jar bs bf)).mpr ok]; decide)⟩
      rw [updM_updM, delM_updM ha_]
      exact hk
      
    ·
      skip
      refine jb_cons (js_if ?_)
      refine jt_eq c ?_
      refine je_ix ?_
      refine je_name 0 rfl rfl ?_
      refine je_int ?_
      first | refine d_ixT rfl ?_ | refine d_ixB0 ?_
      refine je_str ?_
      first | refine d_eqI ?_ | refine d_eqS ?_ | refine d_eqB ?_ | refine d_eqNI ?_
      refine ⟨_, rfl, ?_⟩
      refine ⟨fun h1 => absurd h1 (by decide +kernel), fun h1 => ?_⟩
      refine jb_nil ?_
      refine jb_cons (js_ret ?_)
      refine je_make c F_Window (by decide) ?_
      refine ja_cons ?_
      refine je_ix ?_
      refine je_name 0 rfl rfl ?_
      refine je_int ?_
      first | refine d_ixT rfl ?_ | refine d_ixB1 ?_
      refine ja_cons ?_
      refine je_ix ?_
      refine je_name 0 rfl rfl ?_
      refine je_int ?_
      first | refine d_ixT rfl ?_ | refine d_ixB2 ?_
      refine ja_nil ?_
      refine fun a_ ha_ => ⟨_, _, _, some bs, some bf, rfl, updM_same, .int _, .int _, fun _ => ⟨rfl, .inr ⟨_, _, updM_same, ?_⟩⟩, fun g => absurd g (by rw [show (goodB (some bs) 1 1000000000000000 && goodB (some bf) 1 1000000000000) = true from (bdOk_iff (.win bs bf)).mpr ok]; decide)⟩
      rw [updM_updM, delM_updM ha_]
      exact hk
      
theorem sc__law_gap : FnScope ["_law_cell_here"] ["_law_cell_here"] (defScope s__law_gap) := ⟨rfl, rfl, rfl, by decide +kernel, rfl, by decide +kernel, by decide +kernel⟩
theorem ok__law_gap {f : Addr} {fd : FuncData} (F : Fun K "_law_gap" "_law_gap" s__law_gap f fd) (T : Txt K mg A) : FnOk Pg w K mg base (L2.CX Pg w) 1 f fd ["_law_cell_here"] (toSp K (S__law_gap A)) := by
  refine fn_data F sc__law_gap (fun ds μ kd ke h => ?_) (fun cdv A_ outer s H E c ow ds μ kd ke h => ?_)
  · obtain ⟨_law_cell_here, rfl, hk⟩ := h; rfl
  · obtain ⟨_law_cell_here, rfl, hk⟩ := h
    refine jb_cons (js_ret ?_)
    refine je_ix ?_
    refine (je_lst ?_ : _)
    refine ja_cons ?_
    refine je_int ?_
    refine ja_cons ?_
    refine je_int ?_
    refine ja_cons ?_
    refine je_int ?_
    refine ja_cons ?_
    refine je_int ?_
    refine ja_cons ?_
    refine je_int ?_
    refine ja_cons ?_
    refine je_int ?_
    refine ja_cons ?_
    refine je_mod ?_
    refine je_fdiv ?_
    refine je_name 0 rfl rfl ?_
    refine je_int ?_
    refine d_fdivI (by walk_at "cd") ?_
    refine je_int ?_
    refine d_modI (by first | decide | omega) ?_
    refine ja_cons ?_
    refine je_mod ?_
    refine je_fdiv ?_
    refine je_name 0 rfl rfl ?_
    refine je_int ?_
    refine d_fdivI (by walk_at "cd") ?_
    refine je_int ?_
    refine d_modI (by first | decide | omega) ?_
    refine ja_cons ?_
    refine je_int ?_
    refine ja_cons ?_
    refine je_mod ?_
    refine je_fdiv ?_
    refine je_name 0 rfl rfl ?_
    refine je_int ?_
    refine d_fdivI (by walk_at "cd") ?_
    refine je_pow ?_
    refine je_int ?_
    refine je_int ?_
    refine d_powE (v := 1000000) ⟨by decide, by decide, by decide⟩ rfl ?_
    refine d_modI (by first | decide | omega) ?_
    refine ja_nil ?_
    refine ⟨by walk_at "lens", ?_⟩
    refine je_mod ?_
    refine je_name 0 rfl rfl ?_
    refine je_int ?_
    refine d_modI (by first | decide | omega) ?_
    refine d_ixInts [0, 0, 1, 1, 2, 3, ((_law_cell_here / 10) % 9), ((_law_cell_here / 10) % 60), 0, ((_law_cell_here / 10) % 1000000)] (.lst _) (by walk_at "ix") (by walk_at "ix") ?_
    exact hk
theorem sc__law_cost : FnScope ["_law_cell_here", "_law_scale_here", "_law_many"] ["_law_cell_here", "_law_scale_here"] (defScope s__law_cost) := ⟨rfl, rfl, rfl, by decide +kernel, rfl, by decide +kernel, by decide +kernel⟩
theorem ok__law_cost {f : Addr} {fd : FuncData} (F : Fun K "_law_cost" "_law_cost" s__law_cost f fd) (T : Txt K mg A) : FnOk Pg w K mg base (L2.CX Pg w) 1 f fd ["_law_cell_here", "_law_scale_here"] (toSp K (S__law_cost A)) := by
  refine fn_data F sc__law_cost (fun ds μ kd ke h => ?_) (fun cdv A_ outer s H E c ow ds μ kd ke h => ?_)
  · obtain ⟨_law_cell_here, _law_scale_here, rfl, h0, h1, h2, hk⟩ := h; rfl
  · obtain ⟨_law_cell_here, _law_scale_here, rfl, h0, h1, h2, hk⟩ := h
    refine jb_cons (js_set 2 c rfl ?_)
    refine je_ix ?_
    refine (je_lst ?_ : _)
    refine ja_cons ?_
    refine je_add ?_
    refine je_int ?_
    refine je_mod ?_
    refine je_name 0 rfl rfl ?_
    refine je_int ?_
    refine d_modI (by first | decide | omega) ?_
    first | refine d_addI ?_ | refine d_addL (by constructor) (by constructor) (by walk_at "lens") ?_ | refine d_addS (by walk_at "lens") ?_ | refine d_addT (by walk_at "lens") ?_
    refine ja_cons ?_
    refine je_int ?_
    refine ja_cons ?_
    refine je_add ?_
    refine je_int ?_
    refine je_mod ?_
    refine je_fdiv ?_
    refine je_name 0 rfl rfl ?_
    refine je_int ?_
    refine d_fdivI (by walk_at "cd") ?_
    refine je_int ?_
    refine d_modI (by first | decide | omega) ?_
    first | refine d_addI ?_ | refine d_addL (by constructor) (by constructor) (by walk_at "lens") ?_ | refine d_addS (by walk_at "lens") ?_ | refine d_addT (by walk_at "lens") ?_
    refine ja_nil ?_
    refine ⟨by walk_at "lens", ?_⟩
    refine je_mod ?_
    refine je_fdiv ?_
    refine je_name 0 rfl rfl ?_
    refine je_int ?_
    refine d_fdivI (by walk_at "cd") ?_
    refine je_int ?_
    refine d_modI (by first | decide | omega) ?_
    refine d_ixInts [(1 + (_law_cell_here % 6)), 1, (1 + ((_law_cell_here / 3) % 20))] (.lst _) (by walk_at "ix") (by walk_at "ix") ?_
    refine jb_cons (js_ret ?_)
    refine je_cB (call_min2 c.calm) T.m_min PyProof.Rows.boot_min ?_
    refine ja_cons ?_
    refine je_pow ?_
    refine je_int ?_
    refine je_int ?_
    refine d_powE (v := 1000000000) ⟨by decide, by decide, by decide⟩ rfl ?_
    refine ja_cons ?_
    refine je_add ?_
    refine je_mul ?_
    refine je_name 2 rfl rfl ?_
    refine je_name 1 rfl rfl ?_
    first | refine d_mulI (by walk_at "cm") ?_ | refine d_mulL1 (by constructor) (by omega) ?_
    refine je_mul ?_
    refine je_mod ?_
    refine je_fdiv ?_
    refine je_name 0 rfl rfl ?_
    refine je_int ?_
    refine d_fdivI (by walk_at "cd") ?_
    refine je_int ?_
    refine d_modI (by first | decide | omega) ?_
    refine je_fdiv ?_
    refine je_name 1 rfl rfl ?_
    refine je_int ?_
    refine d_fdivI (by walk_at "cd") ?_
    first | refine d_mulI (by walk_at "cm") ?_ | refine d_mulL1 (by constructor) (by omega) ?_
    first | refine d_addI ?_ | refine d_addL (by constructor) (by constructor) (by walk_at "lens") ?_ | refine d_addS (by walk_at "lens") ?_ | refine d_addT (by walk_at "lens") ?_
    refine ja_nil ?_
    refine d_min2 ?_
    exact hk
theorem sc__law_scale : FnScope ["_law_cell_here"] ["_law_cell_here"] (defScope s__law_scale) := ⟨rfl, rfl, rfl, by decide +kernel, rfl, by decide +kernel, by decide +kernel⟩
theorem ok__law_scale {f : Addr} {fd : FuncData} (F : Fun K "_law_scale" "_law_scale" s__law_scale f fd) (T : Txt K mg A) : FnOk Pg w K mg base (L2.CX Pg w) 1 f fd ["_law_cell_here"] (toSp K (S__law_scale A)) := by
  refine fn_data F sc__law_scale (fun ds μ kd ke h => ?_) (fun cdv A_ outer s H E c ow ds μ kd ke h => ?_)
  · obtain ⟨_law_cell_here, rfl, hk⟩ := h; rfl
  · obtain ⟨_law_cell_here, rfl, hk⟩ := h
    refine jb_cons (js_ret ?_)
    refine je_ix ?_
    refine (je_lst ?_ : _)
    refine ja_cons ?_
    refine je_int ?_
    refine ja_cons ?_
    refine je_int ?_
    refine ja_cons ?_
    refine je_int ?_
    refine ja_cons ?_
    refine je_pow ?_
    refine je_int ?_
    refine je_int ?_
    refine d_powE (v := 1000000) ⟨by decide, by decide, by decide⟩ rfl ?_
    refine ja_cons ?_
    refine je_mul ?_
    refine je_int ?_
    refine je_pow ?_
    refine je_int ?_
    refine je_int ?_
    refine d_powE (v := 10000000) ⟨by decide, by decide, by decide⟩ rfl ?_
    first | refine d_mulI (by walk_at "cm") ?_ | refine d_mulL1 (by constructor) (by omega) ?_
    refine ja_nil ?_
    refine ⟨by walk_at "lens", ?_⟩
    refine je_mod ?_
    refine je_name 0 rfl rfl ?_
    refine je_int ?_
    refine d_modI (by first | decide | omega) ?_
    refine d_ixInts [1, 1, 1000, 1000000, (4 * 10000000)] (.lst _) (by walk_at "ix") (by walk_at "ix") ?_
    exact hk
theorem sc__law_kind : FnScope ["_law_error", "_law_flags"] ["_law_error"] (defScope s__law_kind) := ⟨rfl, rfl, rfl, by decide +kernel, rfl, by decide +kernel, by decide +kernel⟩
theorem ok__law_kind {f : Addr} {fd : FuncData} (F : Fun K "_law_kind" "_law_kind" s__law_kind f fd) (T : Txt K mg A) : FnOk Pg w K mg base (L2.CX Pg w) 1 f fd ["_law_error"] (toSp K (S__law_kind A)) := by
  refine fn_data F sc__law_kind (fun ds μ kd ke h => ?_) (fun cdv A_ outer s H E c ow ds μ kd ke h => ?_)
  · obtain ⟨r, rfl, hk⟩ := h; rfl
  · obtain ⟨r, rfl, hk⟩ := h
    cases r
    ·
      refine jb_cons (js_set 1 c rfl ?_)
      refine (je_lst ?_ : _)
      refine ja_cons ?_
      refine je_cB call_isX T.m_isinstance PyProof.Rows.boot_isinstance ?_
      refine ja_cons ?_
      refine je_name 0 rfl rfl ?_
      refine ja_cons ?_
      refine je_glob T.g_NoName ?_
      refine ja_nil ?_
      refine d_isX T.xc_NoName (.own _) T.kit_NoName_NoName ?_
      refine ja_cons ?_
      refine je_cB call_isX T.m_isinstance PyProof.Rows.boot_isinstance ?_
      refine ja_cons ?_
      refine je_name 0 rfl rfl ?_
      refine ja_cons ?_
      refine je_glob T.g_NoMoment ?_
      refine ja_nil ?_
      refine d_isX T.xc_NoName (.own _) T.kit_NoName_NoMoment ?_
      refine ja_cons ?_
      refine je_cB call_isX T.m_isinstance PyProof.Rows.boot_isinstance ?_
      refine ja_cons ?_
      refine je_name 0 rfl rfl ?_
      refine ja_cons ?_
      refine je_glob T.g_Late ?_
      refine ja_nil ?_
      refine d_isX T.xc_NoName (.own _) T.kit_NoName_Late ?_
      refine ja_nil ?_
      refine ⟨by walk_at "lens", ?_⟩
      refine jb_cons (js_set 1 c rfl ?_)
      refine je_add ?_
      refine je_name 1 rfl rfl ?_
      refine (je_lst ?_ : _)
      refine ja_cons ?_
      refine je_cB call_isX T.m_isinstance PyProof.Rows.boot_isinstance ?_
      refine ja_cons ?_
      refine je_name 0 rfl rfl ?_
      refine ja_cons ?_
      refine je_glob T.g_NoCost ?_
      refine ja_nil ?_
      refine d_isX T.xc_NoName (.own _) T.kit_NoName_NoCost ?_
      refine ja_cons ?_
      refine je_bl ?_
      refine ja_nil ?_
      refine ⟨by walk_at "lens", ?_⟩
      refine d_addL (.lst _) (.lst _) (by rw [sizeLine_eq]; simp) ?_
      refine jb_cons (js_ret ?_)
      refine je_add ?_
      refine je_str ?_
      refine je_ix ?_
      refine (je_lst ?_ : _)
      refine ja_cons ?_
      refine je_str ?_
      refine ja_cons ?_
      refine je_str ?_
      refine ja_cons ?_
      refine je_str ?_
      refine ja_cons ?_
      refine je_str ?_
      refine ja_cons ?_
      refine je_str ?_
      refine ja_nil ?_
      refine ⟨by walk_at "lens", ?_⟩
      refine je_bm PySem.F.plainAttrs_list PySem.F.slot_list_index PySem.F.type_list_index (mt_indexD (by have := c.room.un; omega)) ?_
      refine je_name 1 rfl rfl ?_
      refine ⟨DTy.lst (.lst _), ?_⟩
      refine ja_cons ?_
      refine je_bl ?_
      refine ja_nil ?_
      refine d_indexE Enc.bl (by decide) (x := true) (xs := [true, false, false, false, true]) (j := 0) (.lst _) rfl (idxT rfl) rfl ?_
      refine d_ixL (.lst _) (d := .str "NoName") rfl ?_
      refine d_addS (sl2 (n := 100) (m := 100) (by decide +kernel) (by decide +kernel) (by decide)) ?_
      exact hk
    ·
      refine jb_cons (js_set 1 c rfl ?_)
      refine (je_lst ?_ : _)
      refine ja_cons ?_
      refine je_cB call_isX T.m_isinstance PyProof.Rows.boot_isinstance ?_
      refine ja_cons ?_
      refine je_name 0 rfl rfl ?_
      refine ja_cons ?_
      refine je_glob T.g_NoName ?_
      refine ja_nil ?_
      refine d_isX T.xc_NoMoment (.own _) T.kit_NoMoment_NoName ?_
      refine ja_cons ?_
      refine je_cB call_isX T.m_isinstance PyProof.Rows.boot_isinstance ?_
      refine ja_cons ?_
      refine je_name 0 rfl rfl ?_
      refine ja_cons ?_
      refine je_glob T.g_NoMoment ?_
      refine ja_nil ?_
      refine d_isX T.xc_NoMoment (.own _) T.kit_NoMoment_NoMoment ?_
      refine ja_cons ?_
      refine je_cB call_isX T.m_isinstance PyProof.Rows.boot_isinstance ?_
      refine ja_cons ?_
      refine je_name 0 rfl rfl ?_
      refine ja_cons ?_
      refine je_glob T.g_Late ?_
      refine ja_nil ?_
      refine d_isX T.xc_NoMoment (.own _) T.kit_NoMoment_Late ?_
      refine ja_nil ?_
      refine ⟨by walk_at "lens", ?_⟩
      refine jb_cons (js_set 1 c rfl ?_)
      refine je_add ?_
      refine je_name 1 rfl rfl ?_
      refine (je_lst ?_ : _)
      refine ja_cons ?_
      refine je_cB call_isX T.m_isinstance PyProof.Rows.boot_isinstance ?_
      refine ja_cons ?_
      refine je_name 0 rfl rfl ?_
      refine ja_cons ?_
      refine je_glob T.g_NoCost ?_
      refine ja_nil ?_
      refine d_isX T.xc_NoMoment (.own _) T.kit_NoMoment_NoCost ?_
      refine ja_cons ?_
      refine je_bl ?_
      refine ja_nil ?_
      refine ⟨by walk_at "lens", ?_⟩
      refine d_addL (.lst _) (.lst _) (by rw [sizeLine_eq]; simp) ?_
      refine jb_cons (js_ret ?_)
      refine je_add ?_
      refine je_str ?_
      refine je_ix ?_
      refine (je_lst ?_ : _)
      refine ja_cons ?_
      refine je_str ?_
      refine ja_cons ?_
      refine je_str ?_
      refine ja_cons ?_
      refine je_str ?_
      refine ja_cons ?_
      refine je_str ?_
      refine ja_cons ?_
      refine je_str ?_
      refine ja_nil ?_
      refine ⟨by walk_at "lens", ?_⟩
      refine je_bm PySem.F.plainAttrs_list PySem.F.slot_list_index PySem.F.type_list_index (mt_indexD (by have := c.room.un; omega)) ?_
      refine je_name 1 rfl rfl ?_
      refine ⟨DTy.lst (.lst _), ?_⟩
      refine ja_cons ?_
      refine je_bl ?_
      refine ja_nil ?_
      refine d_indexE Enc.bl (by decide) (x := true) (xs := [false, true, false, false, true]) (j := 1) (.lst _) rfl (idxT rfl) rfl ?_
      refine d_ixL (.lst _) (d := .str "NoMoment") rfl ?_
      refine d_addS (sl2 (n := 100) (m := 100) (by decide +kernel) (by decide +kernel) (by decide)) ?_
      exact hk
    ·
      refine jb_cons (js_set 1 c rfl ?_)
      refine (je_lst ?_ : _)
      refine ja_cons ?_
      refine je_cB call_isX T.m_isinstance PyProof.Rows.boot_isinstance ?_
      refine ja_cons ?_
      refine je_name 0 rfl rfl ?_
      refine ja_cons ?_
      refine je_glob T.g_NoName ?_
      refine ja_nil ?_
      refine d_isX T.xc_Late (.own _) T.kit_Late_NoName ?_
      refine ja_cons ?_
      refine je_cB call_isX T.m_isinstance PyProof.Rows.boot_isinstance ?_
      refine ja_cons ?_
      refine je_name 0 rfl rfl ?_
      refine ja_cons ?_
      refine je_glob T.g_NoMoment ?_
      refine ja_nil ?_
      refine d_isX T.xc_Late (.own _) T.kit_Late_NoMoment ?_
      refine ja_cons ?_
      refine je_cB call_isX T.m_isinstance PyProof.Rows.boot_isinstance ?_
      refine ja_cons ?_
      refine je_name 0 rfl rfl ?_
      refine ja_cons ?_
      refine je_glob T.g_Late ?_
      refine ja_nil ?_
      refine d_isX T.xc_Late (.own _) T.kit_Late_Late ?_
      refine ja_nil ?_
      refine ⟨by walk_at "lens", ?_⟩
      refine jb_cons (js_set 1 c rfl ?_)
      refine je_add ?_
      refine je_name 1 rfl rfl ?_
      refine (je_lst ?_ : _)
      refine ja_cons ?_
      refine je_cB call_isX T.m_isinstance PyProof.Rows.boot_isinstance ?_
      refine ja_cons ?_
      refine je_name 0 rfl rfl ?_
      refine ja_cons ?_
      refine je_glob T.g_NoCost ?_
      refine ja_nil ?_
      refine d_isX T.xc_Late (.own _) T.kit_Late_NoCost ?_
      refine ja_cons ?_
      refine je_bl ?_
      refine ja_nil ?_
      refine ⟨by walk_at "lens", ?_⟩
      refine d_addL (.lst _) (.lst _) (by rw [sizeLine_eq]; simp) ?_
      refine jb_cons (js_ret ?_)
      refine je_add ?_
      refine je_str ?_
      refine je_ix ?_
      refine (je_lst ?_ : _)
      refine ja_cons ?_
      refine je_str ?_
      refine ja_cons ?_
      refine je_str ?_
      refine ja_cons ?_
      refine je_str ?_
      refine ja_cons ?_
      refine je_str ?_
      refine ja_cons ?_
      refine je_str ?_
      refine ja_nil ?_
      refine ⟨by walk_at "lens", ?_⟩
      refine je_bm PySem.F.plainAttrs_list PySem.F.slot_list_index PySem.F.type_list_index (mt_indexD (by have := c.room.un; omega)) ?_
      refine je_name 1 rfl rfl ?_
      refine ⟨DTy.lst (.lst _), ?_⟩
      refine ja_cons ?_
      refine je_bl ?_
      refine ja_nil ?_
      refine d_indexE Enc.bl (by decide) (x := true) (xs := [false, false, true, false, true]) (j := 2) (.lst _) rfl (idxT rfl) rfl ?_
      refine d_ixL (.lst _) (d := .str "Late") rfl ?_
      refine d_addS (sl2 (n := 100) (m := 100) (by decide +kernel) (by decide +kernel) (by decide)) ?_
      exact hk
    ·
      refine jb_cons (js_set 1 c rfl ?_)
      refine (je_lst ?_ : _)
      refine ja_cons ?_
      refine je_cB call_isX T.m_isinstance PyProof.Rows.boot_isinstance ?_
      refine ja_cons ?_
      refine je_name 0 rfl rfl ?_
      refine ja_cons ?_
      refine je_glob T.g_NoName ?_
      refine ja_nil ?_
      refine d_isX T.xc_NoCost (.own _) T.kit_NoCost_NoName ?_
      refine ja_cons ?_
      refine je_cB call_isX T.m_isinstance PyProof.Rows.boot_isinstance ?_
      refine ja_cons ?_
      refine je_name 0 rfl rfl ?_
      refine ja_cons ?_
      refine je_glob T.g_NoMoment ?_
      refine ja_nil ?_
      refine d_isX T.xc_NoCost (.own _) T.kit_NoCost_NoMoment ?_
      refine ja_cons ?_
      refine je_cB call_isX T.m_isinstance PyProof.Rows.boot_isinstance ?_
      refine ja_cons ?_
      refine je_name 0 rfl rfl ?_
      refine ja_cons ?_
      refine je_glob T.g_Late ?_
      refine ja_nil ?_
      refine d_isX T.xc_NoCost (.own _) T.kit_NoCost_Late ?_
      refine ja_nil ?_
      refine ⟨by walk_at "lens", ?_⟩
      refine jb_cons (js_set 1 c rfl ?_)
      refine je_add ?_
      refine je_name 1 rfl rfl ?_
      refine (je_lst ?_ : _)
      refine ja_cons ?_
      refine je_cB call_isX T.m_isinstance PyProof.Rows.boot_isinstance ?_
      refine ja_cons ?_
      refine je_name 0 rfl rfl ?_
      refine ja_cons ?_
      refine je_glob T.g_NoCost ?_
      refine ja_nil ?_
      refine d_isX T.xc_NoCost (.own _) T.kit_NoCost_NoCost ?_
      refine ja_cons ?_
      refine je_bl ?_
      refine ja_nil ?_
      refine ⟨by walk_at "lens", ?_⟩
      refine d_addL (.lst _) (.lst _) (by rw [sizeLine_eq]; simp) ?_
      refine jb_cons (js_ret ?_)
      refine je_add ?_
      refine je_str ?_
      refine je_ix ?_
      refine (je_lst ?_ : _)
      refine ja_cons ?_
      refine je_str ?_
      refine ja_cons ?_
      refine je_str ?_
      refine ja_cons ?_
      refine je_str ?_
      refine ja_cons ?_
      refine je_str ?_
      refine ja_cons ?_
      refine je_str ?_
      refine ja_nil ?_
      refine ⟨by walk_at "lens", ?_⟩
      refine je_bm PySem.F.plainAttrs_list PySem.F.slot_list_index PySem.F.type_list_index (mt_indexD (by have := c.room.un; omega)) ?_
      refine je_name 1 rfl rfl ?_
      refine ⟨DTy.lst (.lst _), ?_⟩
      refine ja_cons ?_
      refine je_bl ?_
      refine ja_nil ?_
      refine d_indexE Enc.bl (by decide) (x := true) (xs := [false, false, false, true, true]) (j := 3) (.lst _) rfl (idxT rfl) rfl ?_
      refine d_ixL (.lst _) (d := .str "NoCost") rfl ?_
      refine d_addS (sl2 (n := 100) (m := 100) (by decide +kernel) (by decide +kernel) (by decide)) ?_
      exact hk
theorem sc__law_text : FnScope ["_law_found", "_law_wait"] ["_law_found"] (defScope s__law_text) := ⟨rfl, rfl, rfl, by decide +kernel, rfl, by decide +kernel, by decide +kernel⟩
theorem ok__law_text {f : Addr} {fd : FuncData} (F : Fun K "_law_text" "_law_text" s__law_text f fd) (T : Txt K mg A) : FnOk Pg w K mg base (L2.CX Pg w) 1 f fd ["_law_found"] (toSp K (S__law_text A)) := by
  refine fn_data F sc__law_text (fun ds μ kd ke h => ?_) (fun cdv A_ outer s H E c ow ds μ kd ke h => ?_)
  · obtain ⟨a, rfl, ha, hk⟩ := h; rfl
  · obtain ⟨a, rfl, ha, hk⟩ := h
    rcases a with _ | ⟨o, k, _ | i⟩
    ·
      refine jb_cons (js_if ?_)
      refine jt_eq c ?_
      refine je_cB call_lenA T.m_len PySem.boot_len ?_
      refine ja_cons ?_
      refine je_name 0 rfl rfl ?_
      refine ja_nil ?_
      refine d_lenT ?_
      refine je_int ?_
      first | refine d_eqI ?_ | refine d_eqS ?_ | refine d_eqB ?_ | refine d_eqNI ?_
      refine ⟨_, rfl, ?_⟩
      refine ⟨fun h1 => ?_, fun h1 => absurd h1 (by simp)⟩
      refine jb_cons (js_ret ?_)
      refine je_ix ?_
      refine je_name 0 rfl rfl ?_
      refine je_int ?_
      first | refine d_ixT rfl ?_ | refine d_ixB0 ?_
      exact hk
    ·
      obtain ⟨hk100, _⟩ := ha o k none rfl
      refine jb_cons (js_if ?_)
      refine jt_eq c ?_
      refine je_cB call_lenA T.m_len PySem.boot_len ?_
      refine ja_cons ?_
      refine je_name 0 rfl rfl ?_
      refine ja_nil ?_
      refine d_lenT ?_
      refine je_int ?_
      first | refine d_eqI ?_ | refine d_eqS ?_ | refine d_eqB ?_ | refine d_eqNI ?_
      refine ⟨_, rfl, ?_⟩
      refine ⟨fun h1 => absurd h1 (by simp), fun h1 => ?_⟩
      refine jb_nil ?_
      refine jb_cons (js_set 1 c rfl ?_)
      refine je_to (.str ("never")) ?_ ?_
      ·
        refine je_ite ?_
        refine jt_is ?_
        refine je_ix ?_
        refine je_name 0 rfl rfl ?_
        refine je_int ?_
        first | refine d_ixT rfl ?_ | refine d_ixB3 ?_
        refine je_non ?_
        refine d_isN ?_
        refine ⟨_, rfl, ?_⟩
        refine ⟨fun h2 => ?_, fun h2 => ?_⟩
        ·
          
          refine je_str ?_
          exact ⟨rfl, rfl⟩
        ·
          exact absurd h2 (by decide)
        
      refine jb_cons (js_ret ?_)
      refine je_join ?_
      refine je_str ?_
      refine ⟨DTy.str, ?_⟩
      refine ja_cons ?_
      refine (je_lst ?_ : _)
      refine ja_cons ?_
      refine je_ix ?_
      refine je_name 0 rfl rfl ?_
      refine je_int ?_
      first | refine d_ixT rfl ?_ | refine d_ixB0 ?_
      refine ja_cons ?_
      refine je_ix ?_
      refine je_name 0 rfl rfl ?_
      refine je_int ?_
      first | refine d_ixT rfl ?_ | refine d_ixB1 ?_
      refine ja_cons ?_
      refine je_cT call_str_int T.m_str PyProof.Rows.boot_str ?_
      refine ja_cons ?_
      refine je_ix ?_
      refine je_name 0 rfl rfl ?_
      refine je_int ?_
      first | refine d_ixT rfl ?_ | refine d_ixB2 ?_
      refine ja_nil ?_
      refine d_strI (small_log (by omega) (by omega)) ?_
      refine ja_cons ?_
      refine je_name 1 rfl rfl ?_
      refine ja_nil ?_
      refine ⟨by walk_at "lens", ?_⟩
      refine ja_nil ?_
      refine d_join ["shut", if o then "own" else "common", numS (k : Int), "never"] (.lst _) (ans_len hk100 (by decide +kernel)) ?_
      exact hk
    ·
      obtain ⟨hk100, hi⟩ := ha o k (some i) rfl
      obtain ⟨hi0, hi1⟩ := hi i rfl
      refine jb_cons (js_if ?_)
      refine jt_eq c ?_
      refine je_cB call_lenA T.m_len PySem.boot_len ?_
      refine ja_cons ?_
      refine je_name 0 rfl rfl ?_
      refine ja_nil ?_
      refine d_lenT ?_
      refine je_int ?_
      first | refine d_eqI ?_ | refine d_eqS ?_ | refine d_eqB ?_ | refine d_eqNI ?_
      refine ⟨_, rfl, ?_⟩
      refine ⟨fun h1 => absurd h1 (by simp), fun h1 => ?_⟩
      refine jb_nil ?_
      refine jb_cons (js_set 1 c rfl ?_)
      refine je_to (.str (numS i)) ?_ ?_
      ·
        refine je_ite ?_
        refine jt_is ?_
        refine je_ix ?_
        refine je_name 0 rfl rfl ?_
        refine je_int ?_
        first | refine d_ixT rfl ?_ | refine d_ixB3 ?_
        refine je_non ?_
        refine d_isN ?_
        refine ⟨_, rfl, ?_⟩
        refine ⟨fun h2 => ?_, fun h2 => ?_⟩
        ·
          exact absurd (show false = true from h2) (by decide)
        ·
          
          refine je_cT call_str_int T.m_str PyProof.Rows.boot_str ?_
          refine ja_cons ?_
          refine je_ix ?_
          refine je_name 0 rfl rfl ?_
          refine je_int ?_
          first | refine d_ixT rfl ?_ | refine d_ixB3 ?_
          refine ja_nil ?_
          refine d_strI (small_log (by omega) (by omega)) ?_
          exact ⟨rfl, rfl⟩
        
      refine jb_cons (js_ret ?_)
      refine je_join ?_
      refine je_str ?_
      refine ⟨DTy.str, ?_⟩
      refine ja_cons ?_
      refine (je_lst ?_ : _)
      refine ja_cons ?_
      refine je_ix ?_
      refine je_name 0 rfl rfl ?_
      refine je_int ?_
      first | refine d_ixT rfl ?_ | refine d_ixB0 ?_
      refine ja_cons ?_
      refine je_ix ?_
      refine je_name 0 rfl rfl ?_
      refine je_int ?_
      first | refine d_ixT rfl ?_ | refine d_ixB1 ?_
      refine ja_cons ?_
      refine je_cT call_str_int T.m_str PyProof.Rows.boot_str ?_
      refine ja_cons ?_
      refine je_ix ?_
      refine je_name 0 rfl rfl ?_
      refine je_int ?_
      first | refine d_ixT rfl ?_ | refine d_ixB2 ?_
      refine ja_nil ?_
      refine d_strI (small_log (by omega) (by omega)) ?_
      refine ja_cons ?_
      refine je_name 1 rfl rfl ?_
      refine ja_nil ?_
      refine ⟨by walk_at "lens", ?_⟩
      refine ja_nil ?_
      refine d_join ["shut", if o then "own" else "common", numS (k : Int), numS i] (.lst _) (ans_len hk100 (numS_len hi0 (by omega))) ?_
      exact hk
theorem sc__law_answer : FnScope ["_law_gate", "_law_asked", "_law_error", "_law_found", "e"] ["_law_gate", "_law_asked"] (defScope s__law_answer) := ⟨rfl, rfl, rfl, by decide +kernel, rfl, by decide +kernel, by decide +kernel⟩
theorem ok__law_answer {f : Addr} {fd : FuncData} (F : Fun K "_law_answer" "_law_answer" s__law_answer f fd) (T : Txt K mg A) (F__law_text : DCal Pg w K mg base 1 "_law_text" (S__law_text A) []) (F__law_kind : DCal Pg w K mg base 1 "_law_kind" (S__law_kind A) []) (M_Gate_names : DMet Pg w K mg base 1 A.CG "names" (S_Gate_names A) []) (M_Gate_kept : DMet Pg w K mg base 2 A.CG "kept" (S_Gate_kept A) []) (M_Gate_ask : DMet Pg w K mg base 6 A.CG "ask" (S_Gate_ask A) []) (M_Gate_visit : DMet Pg w K mg base 7 A.CG "visit" (S_Gate_visit A) []) : FnOk Pg w K mg base (L2.CX Pg w) 8 f fd ["_law_gate", "_law_asked"] (toSp K (S__law_answer A)) := by
  refine fn_data F sc__law_answer (fun ds μ kd ke h => ?_) (fun cdv A_ outer s H E c ow ds μ kd ke h => ?_)
  · obtain ⟨g, s, q, pd, cas, pas, rfl, G, ⟨ok, ppl, hal⟩, hq, hk⟩ := h; rfl
  · obtain ⟨g, s, q, pd, cas, pas, rfl, G, ⟨ok, ppl, hal⟩, hq, hk⟩ := h
    have hpl2 := ok.pl2
    have hpas : pas.length = s.g.people.length := by have := congrArg List.length (ppl_fst G.ppl); rw [List.length_map, List.length_map] at this; exact this
    rcases q with _ | _ | ⟨v, nm, t, c_⟩
    · have hs1 : ∀ z ∈ (["names"] : List Str), PyData.strOk z = true := by decide +kernel
      refine jb_cons (js_if (jt_eq c (je_name 1 rfl rfl ?_)))
      refine (je_lst (ja_cons (je_str (ja_nil ⟨by walk_at "lens", ?_⟩))) : _)
      refine d_eqStrs ["names"] ["names"] (.lst _) (.lst _) hs1 hs1 ?_
      refine ⟨_, rfl, fun _ => ?_, fun z => absurd z (by simp)⟩
      refine jb_cons (js_ret (je_ite (jt_ne c ?_)))
      refine je_meth0 c (je_name 0 rfl rfl ⟨_, _, _, _, _, .obj G.obj, gtF_no _ _ _ _ _ (by decide +kernel) (by decide +kernel) (by decide +kernel) (by decide +kernel), M_Gate_names, by decide, ?_⟩)
      refine ⟨g, _, _, _, _, _, pd, cas, pas, rfl, G, by omega, fun ys p y1 y2 y3 => ?_⟩
      have hys : ∀ y ∈ ys, nameOk y = true := fun y hy => by
        obtain ⟨q, hq, rfl⟩ := List.mem_map.mp (y1.mem_iff.mp hy)
        exact (ppl q hq).1
      obtain ⟨n1, n2⟩ := namesT_eq hys
      have en : (ansQ s .names).1 = .inr (namesT ys) := by
        show (Sum.inr (namesT (sortN _)) : RA) = _
        rw [sortN_eq y1 y2]
      have x1 : ExtM μ (updM μ p (.lst (ys.map Dv.str))) := ext_newS y3
      refine (je_lst (ja_nil ⟨by walk_at "lens", ?_⟩) : _)
      refine d_neStrs ys [] (.obj updM_same) (.lst _) (fun y hy => nameOk_str (hys y hy)) (fun y hy => nomatch hy) ?_
      refine ⟨_, rfl, fun hn => ?_, fun hn => ?_⟩
      · refine je_join (je_str ⟨DTy.str, ja_cons ?_⟩)
        replace G := G.ext x1
        refine je_meth0 c (je_name 0 rfl rfl ⟨_, _, _, _, _, .obj G.obj, gtF_no _ _ _ _ _ (by decide +kernel) (by decide +kernel) (by decide +kernel) (by decide +kernel), M_Gate_names, by decide, ?_⟩)
        refine ⟨g, _, _, _, _, _, pd, cas, pas, rfl, G, by omega, fun ys2 p2 f1 f2 f3 => ja_nil ?_⟩
        obtain rfl := sortedS_uniq (y1.trans f1.symm) y2 f2
        refine d_join ys (.obj updM_same) (names_len ok (by omega) y1) ?_
        have x2 := ext_newS (o := .lst (ys.map Dv.str)) f3
        have hf := hk _ pas (G.ext x2) (fun b o h _ => x2 b o (x1 b o h))
        rw [en, show ansT (.inr (namesT ys)) = namesT ys from rfl, n1 (by simpa using hn)] at hf
        exact hf
      · refine je_str ?_
        have hf := hk _ pas (G.ext x1) (fun b o h _ => x1 b o h)
        rw [en, show ansT (.inr (namesT ys)) = namesT ys from rfl, n2 (by simpa using hn)] at hf
        exact hf
    · have hs1 : ∀ z ∈ (["names"] : List Str), PyData.strOk z = true := by decide +kernel
      have hs2 : ∀ z ∈ (["kept"] : List Str), PyData.strOk z = true := by decide +kernel
      refine jb_cons (js_if (jt_eq c (je_name 1 rfl rfl ?_)))
      refine (je_lst (ja_cons (je_str (ja_nil ⟨by walk_at "lens", ?_⟩))) : _)
      refine d_eqStrs ["kept"] ["names"] (.lst _) (.lst _) hs2 hs1 ?_
      refine ⟨_, rfl, fun z => absurd z (by decide +kernel), fun _ => ?_⟩
      refine jb_nil ?_
      refine jb_cons (js_if (jt_eq c (je_name 1 rfl rfl ?_)))
      refine (je_lst (ja_cons (je_str (ja_nil ⟨by walk_at "lens", ?_⟩))) : _)
      refine d_eqStrs ["kept"] ["kept"] (.lst _) (.lst _) hs2 hs2 ?_
      refine ⟨_, rfl, fun _ => ?_, fun z => absurd z (by simp)⟩
      refine jb_cons (js_ret ?_)
      refine je_cT call_str_int T.m_str PyProof.Rows.boot_str (ja_cons ?_)
      refine je_meth0 c (je_name 0 rfl rfl ⟨_, _, _, _, _, .obj G.obj, gtF_no _ _ _ _ _ (by decide +kernel) (by decide +kernel) (by decide +kernel) (by decide +kernel), M_Gate_kept, by decide, ?_⟩)
      refine ⟨g, _, _, _, _, _, pd, cas, pas, rfl, G, ?_⟩
      refine ja_nil (d_strI (small_log (keptOf_nonneg _ _ _ _) (kept_hi ok (by omega))) ?_)
      exact hk μ pas G fun b o h _ => h
    have hpl := ok.pln
    have hnl : nm.length < sizeLine := by have := (nm8_ok hq.1).2.2; rw [sizeLine_eq]; omega
    rcases v with _ | _
    · refine jb_cons (js_if (jt_eq c (je_name 1 rfl rfl ?_)))
      refine (je_lst (ja_cons (je_str (ja_nil ⟨by walk_at "lens", ?_⟩))) : _)
      refine d_eqCall (way_str _) (nm8_str hq.1) (by decide +kernel) ?_
      refine ⟨_, rfl, fun z => absurd z (by decide), fun _ => ?_⟩
      refine jb_nil ?_
      refine jb_cons (js_if (jt_eq c (je_name 1 rfl rfl ?_)))
      refine (je_lst (ja_cons (je_str (ja_nil ⟨by walk_at "lens", ?_⟩))) : _)
      refine d_eqCall (way_str _) (nm8_str hq.1) (by decide +kernel) ?_
      refine ⟨_, rfl, fun z => absurd z (by decide), fun _ => ?_⟩
      refine jb_nil ?_
      refine jb_cons (js_set 2 c rfl (je_non ?_))
      refine jb_cons (js_set 3 c rfl (je_non ?_))
      refine jb_cons (js_try 4 c rfl ⟨rfl, by decide, .inl T.x_GateError.g⟩ ?_)
      intro pq1 xe1 W1 c1 ow1
      refine jb_cons (js_if (jt_eq c1 (je_ix (je_name 1 rfl rfl (je_int (d_ixL (.lst _) rfl ?_))))))
      refine je_str ?_
      refine d_eqS ⟨_, rfl, ?_⟩
      refine ⟨fun _ => ?_, fun z => absurd z (by decide +kernel)⟩
      refine jb_cons (js_set 3 c1 rfl ?_)
      refine je_meth c1 (je_name 0 rfl rfl ⟨_, _, _, _, _, .obj G.obj, gtF_no _ _ _ _ _ (by decide +kernel) (by decide +kernel) (by decide +kernel) (by decide +kernel), M_Gate_ask, by decide, ?_⟩)
      refine ja_cons (je_ix (je_name 1 rfl rfl (je_int (d_ixL (.lst _) rfl ?_))))
      refine ja_cons (je_ix (je_name 1 rfl rfl (je_int (d_ixL (.lst _) rfl ?_))))
      refine ja_cons (je_ix (je_name 1 rfl rfl (je_int (d_ixL (.lst _) rfl ?_))))
      refine ja_nil ?_
      refine ⟨g, _, _, _, _, _, pd, cas, pas, _, _, _, some nm, some t, some c_, rfl, G, ⟨.str _ hnl, .int _, .int _⟩, fun r hr => ⟨true, (by cases r <;> first | exact T.ex_NoName_GateError | exact T.ex_NoMoment_GateError | exact T.ex_Late_GateError | exact T.ex_NoCost_GateError), fun _ => ⟨_, rfl, fun z pq => ?_⟩, fun z => (nomatch z)⟩, fun nm_ t_ c__ hr e1 e2 e3 μ2 ex => ?_⟩
      · refine jb_cons (js_setN 2 c.nd rfl (je_name 4 rfl rfl (jb_nil ?_)))
        refine jb_cons (js_ret (je_ite (jt_is (je_name 2 rfl rfl (je_non (d_isN ⟨_, rfl, fun z => absurd (show false = true from z) (by decide), fun _ => ?_⟩))))))
        refine je_call c F__law_kind (by decide) (ja_cons (je_name 2 rfl rfl (ja_nil ?_)))
        have e : ansQ s (.call false nm t c_) = (.inl (.gate r), s) := by
          show gateA s false nm t c_ = _
          rw [gateA, hr]
        rw [e] at hk
        exact ⟨r, rfl, hk μ pas G fun b o h _ => h⟩
      obtain ⟨_, _, _, q1, q2, q3, hnm, hlt, ht0, ht1, hc0, hc1⟩ := refu_none hr
      cases q1; cases q2; cases q3; cases e1; cases e2; cases e3
      refine jb_nil (jb_nil ?_)
      refine jb_cons (js_ret (je_ite (jt_is (je_name 2 rfl rfl (je_non (d_isN ⟨_, rfl, fun _ => ?_, fun z => absurd (show true = false from z) (by decide)⟩))))))
      refine je_call c F__law_text (by decide) (ja_cons (je_name 3 rfl rfl (ja_nil ?_)))
      refine ⟨_, rfl, ask_ok ok (by omega) ht0 (by omega) hc1, ?_⟩
      have e : ansQ s (.call false nm t c_) = (.inr (ask s.own s.com s.g.people s.g.all nm t c_).txt, s) := by
        show gateA s false nm t c_ = _
        rw [gateA, hr]
        rfl
      rw [e] at hk
      exact hk μ2 pas (G.ext ex) fun b o h _ => ex b o h
    · refine jb_cons (js_if (jt_eq c (je_name 1 rfl rfl ?_)))
      refine (je_lst (ja_cons (je_str (ja_nil ⟨by walk_at "lens", ?_⟩))) : _)
      refine d_eqCall (way_str _) (nm8_str hq.1) (by decide +kernel) ?_
      refine ⟨_, rfl, fun z => absurd z (by decide), fun _ => ?_⟩
      refine jb_nil ?_
      refine jb_cons (js_if (jt_eq c (je_name 1 rfl rfl ?_)))
      refine (je_lst (ja_cons (je_str (ja_nil ⟨by walk_at "lens", ?_⟩))) : _)
      refine d_eqCall (way_str _) (nm8_str hq.1) (by decide +kernel) ?_
      refine ⟨_, rfl, fun z => absurd z (by decide), fun _ => ?_⟩
      refine jb_nil ?_
      refine jb_cons (js_set 2 c rfl (je_non ?_))
      refine jb_cons (js_set 3 c rfl (je_non ?_))
      refine jb_cons (js_try 4 c rfl ⟨rfl, by decide, .inl T.x_GateError.g⟩ ?_)
      intro pq1 xe1 W1 c1 ow1
      refine jb_cons (js_if (jt_eq c1 (je_ix (je_name 1 rfl rfl (je_int (d_ixL (.lst _) rfl ?_))))))
      refine je_str ?_
      refine d_eqS ⟨_, rfl, ?_⟩
      refine ⟨fun z => absurd z (by decide +kernel), fun _ => ?_⟩
      refine jb_cons (js_set 3 c1 rfl ?_)
      refine je_meth c1 (je_name 0 rfl rfl ⟨_, _, _, _, _, .obj G.obj, gtF_no _ _ _ _ _ (by decide +kernel) (by decide +kernel) (by decide +kernel) (by decide +kernel), M_Gate_visit, by decide, ?_⟩)
      refine ja_cons (je_ix (je_name 1 rfl rfl (je_int (d_ixL (.lst _) rfl ?_))))
      refine ja_cons (je_ix (je_name 1 rfl rfl (je_int (d_ixL (.lst _) rfl ?_))))
      refine ja_cons (je_ix (je_name 1 rfl rfl (je_int (d_ixL (.lst _) rfl ?_))))
      refine ja_nil ?_
      refine ⟨g, _, _, _, _, _, pd, cas, pas, _, _, _, some nm, some t, some c_, rfl, G, ⟨.str _ hnl, .int _, .int _⟩, ⟨by omega, hpl.mono (by omega), by omega⟩, fun r hr => ⟨true, (by cases r <;> first | exact T.ex_NoName_GateError | exact T.ex_NoMoment_GateError | exact T.ex_Late_GateError | exact T.ex_NoCost_GateError), fun _ => ⟨_, rfl, fun z pq => ?_⟩, fun z => (nomatch z)⟩, fun nm_ t_ c__ hr e1 e2 e3 => ?_⟩
      · refine jb_cons (js_setN 2 c.nd rfl (je_name 4 rfl rfl (jb_nil ?_)))
        refine jb_cons (js_ret (je_ite (jt_is (je_name 2 rfl rfl (je_non (d_isN ⟨_, rfl, fun z => absurd (show false = true from z) (by decide), fun _ => ?_⟩))))))
        refine je_call c F__law_kind (by decide) (ja_cons (je_name 2 rfl rfl (ja_nil ?_)))
        have e : ansQ s (.call true nm t c_) = (.inl (.gate r), s) := by
          show gateA s true nm t c_ = _
          rw [gateA, hr]
        rw [e] at hk
        exact ⟨r, rfl, hk μ pas G fun b o h _ => h⟩
      obtain ⟨_, _, _, q1, q2, q3, hnm, hlt, ht0, ht1, hc0, hc1⟩ := refu_none hr
      cases q1; cases q2; cases q3; cases e1; cases e2; cases e3
      refine ⟨fun hno μ2 ex => ?_, fun hop μ2 pas2 G2 lp kp fr => ?_⟩
      · refine jb_nil (jb_nil ?_)
        refine jb_cons (js_ret (je_ite (jt_is (je_name 2 rfl rfl (je_non (d_isN ⟨_, rfl, fun _ => ?_, fun z => absurd (show true = false from z) (by decide)⟩))))))
        refine je_call c F__law_text (by decide) (ja_cons (je_name 3 rfl rfl (ja_nil ?_)))
        refine ⟨_, rfl, ask_ok ok (by omega) ht0 (by omega) hc1, ?_⟩
        have e : ansQ s (.call true nm t c_) = (.inr (ask s.own s.com s.g.people s.g.all nm t c_).txt, s) := by
          show gateA s true nm t c_ = _
          rw [gateA, hr]
          simp only [hno, decide_false, Bool.and_false, if_neg Bool.false_ne_true]
        rw [e] at hk
        exact hk μ2 pas (G.ext ex) fun b o h _ => ex b o h
      · refine jb_nil (jb_nil ?_)
        refine jb_cons (js_ret (je_ite (jt_is (je_name 2 rfl rfl (je_non (d_isN ⟨_, rfl, fun _ => ?_, fun z => absurd (show true = false from z) (by decide)⟩))))))
        refine je_call c F__law_text (by decide) (ja_cons (je_name 3 rfl rfl (ja_nil ?_)))
        refine ⟨.opn, rfl, (fun o k w z => nomatch z), ?_⟩
        have e : ansQ s (.call true nm t c_) = (.inr Ans.opn.txt, { s with gate := some ⟨putP s.g.people nm (mine s.g.people nm ++ [(t, c_)]), s.g.all ++ [(t, c_)], t⟩ }) := by
          show gateA s true nm t c_ = _
          rw [gateA, hr]
          simp only [hop, decide_true, Bool.and_true, if_true]
        rw [e] at hk
        exact hk μ2 pas2 G2 fun b o h hf => kp b o h (fun z => hf (.inl z)) (fun z => hf (.inr (.inl z))) (fun z => hf (.inr (.inr (.inl z)))) fun p hp z => hf (.inr (.inr (.inr ⟨p, hp, z⟩)))
theorem sc__law_spread : FnScope ["_law_cell_here", "_law_words", "_law_row_here"] ["_law_cell_here", "_law_words"] (defScope s__law_spread) := ⟨rfl, rfl, rfl, by decide +kernel, rfl, by decide +kernel, by decide +kernel⟩
theorem ok__law_spread {f : Addr} {fd : FuncData} (F : Fun K "_law_spread" "_law_spread" s__law_spread f fd) (T : Txt K mg A) : FnOk Pg w K mg base (L2.CX Pg w) 1 f fd ["_law_cell_here", "_law_words"] (toSp K (S__law_spread A)) := by
  refine fn_data F sc__law_spread (fun ds μ kd ke h => ?_) (fun cdv A_ outer s H E c ow ds μ kd ke h => ?_)
  · obtain ⟨c_, q, rfl, h0, hq, hk⟩ := h; rfl
  · obtain ⟨c_, q, rfl, h0, hq, hk⟩ := h
    refine jb_cut (fun e μ2 => ∃ ws : List Str, e = [some (.int c_), some (.lst (ws.map Dv.str)), none] ∧ SpW q ws ∧ μ = μ2) (js_if ?_) ?_
    ·
      
      refine jt_w ?_
      apply jw_andP
      ·
        refine jt_gt ?_
        refine je_cB call_lenA T.m_len PySem.boot_len ?_
        refine ja_cons ?_
        refine je_name 1 rfl rfl ?_
        refine ja_nil ?_
        refine d_lenL (.lst _) ?_
        rw [List.length_map]
        refine je_int ?_
        refine d_cmpI ?_
        refine ⟨_, rfl, ?_⟩
        exact ⟨rfl, rfl⟩
      ·
        intro h1
        refine jw_and1 ?_
        refine jt_eq c ?_
        refine je_mod ?_
        refine je_name 0 rfl rfl ?_
        refine je_int ?_
        refine d_modI (by first | decide | omega) ?_
        refine je_int ?_
        first | refine d_eqI ?_ | refine d_eqS ?_ | refine d_eqB ?_ | refine d_eqNI ?_
        refine ⟨_, rfl, ?_⟩
        exact ⟨rfl, rfl⟩
      refine ⟨fun h2 => ?_, fun h2 => ?_⟩
      ·
        obtain ⟨hq2, _⟩ : _ ∧ _ := by rw [Bool.and_eq_true] at h2; exact h2
        obtain ⟨v, nm, t, cst, rfl⟩ := q_call (of_decide_eq_true hq2)
        refine jb_cons (js_set 1 c rfl ?_)
        refine je_add ?_
        refine je_slice ?_
        refine je_name 1 rfl rfl ?_
        refine je_neg ?_
        refine je_int ?_
        refine d_negI ?_
        refine ⟨_, rfl, ?_⟩
        refine ⟨_, by constructor, ?_⟩
        try rw [cutD_map]
        refine (je_lst ?_ : _)
        refine ja_cons ?_
        refine je_add ?_
        refine je_mulSg ?_
        refine je_str ?_
        refine je_add ?_
        refine je_int ?_
        refine je_mod ?_
        refine je_fdiv ?_
        refine je_name 0 rfl rfl ?_
        refine je_int ?_
        refine d_fdivI (by walk_at "cd") ?_
        refine je_int ?_
        refine d_modI (by first | decide | omega) ?_
        first | refine d_addI ?_ | refine d_addL (by constructor) (by constructor) (by walk_at "lens") ?_ | refine d_addS (by walk_at "lens") ?_ | refine d_addT (by walk_at "lens") ?_
        refine d_mulZ (by omega) (by omega) ?_
        refine je_ix ?_
        refine je_name 1 rfl rfl ?_
        refine je_neg ?_
        refine je_int ?_
        refine d_negI ?_
        refine d_ixLast Dv.str (p := numS cst) (.lst _) rfl ?_
        refine d_addS (sl2 (n := 100) (m := 20) (by rw [repS_len]; omega) (num_w hq.2.2.1 (by have := hq.2.2.2; omega)).2.2 (by decide)) ?_
        refine ja_nil ?_
        refine ⟨by walk_at "lens", ?_⟩
        rw [show cutG (Qy.call v nm t cst).ws none (some (-1)) = [wayS v, nm, numS t] from rfl]
        refine d_addL (.lst _) (.lst _) (by rw [sizeLine_eq]; simp) ?_
        refine jb_nil ?_
        exact ⟨_, LeE.refl _, [wayS v, nm, numS t, repS 48 (1 + c_ / 5 % 3).toNat ++ numS cst], rfl, SpW.call hq (noughts (by omega) hq.2.2.1 hq.2.2.2), rfl⟩
      refine jb_nil ?_
      exact ⟨_, LeE.refl _, q.ws, rfl, SpW.self hq, rfl⟩
    rintro e μ' ⟨ws, rfl, sp, rfl⟩
    obtain ⟨m, hm, hm1⟩ : ∃ m : Nat, (1 + c_ / 45 % 2).toNat = m + 1 ∧ m ≤ 1 := ⟨(c_ / 45 % 2).toNat, by omega, by omega⟩
    have hbl : (repS 32 (c_ / 15 % 3).toNat ++ Txt.join (repS 32 (m + 1)) ws).length ≤ 210 := len_le (n := 10) (m := 200) (by rw [repS_len]; omega) (joinS_len (m := m + 1) sp.len sp.l4 (by omega)).2
    refine jb_cons (js_set 2 c rfl ?_)
    refine je_add ?_
    refine je_mulSg ?_
    refine je_str ?_
    refine je_mod ?_
    refine je_fdiv ?_
    refine je_name 0 rfl rfl ?_
    refine je_int ?_
    refine d_fdivI (by walk_at "cd") ?_
    refine je_int ?_
    refine d_modI (by first | decide | omega) ?_
    refine d_mulB (by omega) (by omega) ?_
    refine je_join ?_
    refine je_mulSg ?_
    refine je_str ?_
    refine je_add ?_
    refine je_int ?_
    refine je_mod ?_
    refine je_fdiv ?_
    refine je_name 0 rfl rfl ?_
    refine je_int ?_
    refine d_fdivI (by walk_at "cd") ?_
    refine je_int ?_
    refine d_modI (by first | decide | omega) ?_
    first | refine d_addI ?_ | refine d_addL (by constructor) (by constructor) (by walk_at "lens") ?_ | refine d_addS (by walk_at "lens") ?_ | refine d_addT (by walk_at "lens") ?_
    refine d_mulB (by omega) (by omega) ?_
    rw [hm]
    refine ⟨DTy.str, ?_⟩
    refine ja_cons ?_
    refine je_name 1 rfl rfl ?_
    refine ja_nil ?_
    refine d_join ws (.lst _) (by have := (joinS_len (m := m + 1) sp.len sp.l4 (by omega)).1; omega) ?_
    refine d_addS (sl2 (n := 10) (m := 200) (by rw [repS_len]; omega) (joinS_len (m := m + 1) sp.len sp.l4 (by omega)).2 (by decide)) ?_
    refine jb_cut (fun e μ2 => ∃ l : Str, e = [some (.int c_), some (.lst (ws.map Dv.str)), some (.str l)] ∧ (l = repS 32 (c_ / 15 % 3).toNat ++ Txt.join (repS 32 (m + 1)) ws ∨ ∃ p : Str, (p = "" ∨ p = "   ") ∧ l = p ++ "\n" ++ (repS 32 (c_ / 15 % 3).toNat ++ Txt.join (repS 32 (m + 1)) ws)) ∧ μ = μ2) (js_if ?_) ?_
    ·
      
      refine jt_eq c ?_
      refine je_mod ?_
      refine je_fdiv ?_
      refine je_name 0 rfl rfl ?_
      refine je_int ?_
      refine d_fdivI (by walk_at "cd") ?_
      refine je_int ?_
      refine d_modI (by first | decide | omega) ?_
      refine je_int ?_
      first | refine d_eqI ?_ | refine d_eqS ?_ | refine d_eqB ?_ | refine d_eqNI ?_
      refine ⟨_, rfl, ?_⟩
      refine ⟨fun h3 => ?_, fun h3 => ?_⟩
      ·
        refine jb_cons (js_set 2 c rfl ?_)
        refine je_add ?_
        refine je_add ?_
        refine je_ix ?_
        refine (je_lst ?_ : _)
        refine ja_cons ?_
        refine je_str ?_
        refine ja_cons ?_
        refine je_str ?_
        refine ja_nil ?_
        refine ⟨by walk_at "lens", ?_⟩
        refine je_mod ?_
        refine je_fdiv ?_
        refine je_name 0 rfl rfl ?_
        refine je_int ?_
        refine d_fdivI (by walk_at "cd") ?_
        refine je_int ?_
        refine d_modI (by first | decide | omega) ?_
        refine d_ixMap Dv.str ["", "   "] "" (.lst _) (by omega) (by simp; omega) ?_
        have hp := pad_mem (getD_mem (xs := (["", "   "] : List Str)) (i := (c_ / 180 % 2).toNat) (z := "") (by simp; omega))
        generalize (["", "   "] : List Str).getD (c_ / 180 % 2).toNat "" = p at *
        refine je_str ?_
        refine d_addS (sl2 (n := 10) (m := 10) (pad_len hp) (by decide +kernel) (by decide)) ?_
        refine je_name 2 rfl rfl ?_
        refine d_addS (sl2 (n := 20) (m := 210) (len_le (n := 10) (m := 10) (pad_len hp) (by decide +kernel)) hbl (by decide)) ?_
        refine jb_nil ?_
        exact ⟨_, LeE.refl _, _, rfl, .inr ⟨p, hp, rfl⟩, rfl⟩
      refine jb_nil ?_
      exact ⟨_, LeE.refl _, _, rfl, .inl rfl, rfl⟩
    rintro e μ' ⟨l, rfl, hl, rfl⟩
    have hll : l.length ≤ 300 := by
      rcases hl with rfl | ⟨p, hp, rfl⟩
      · omega
      · rw [len_app, len_app, show ("\n" : Str).length = 1 by decide +kernel]
        have := pad_len hp
        omega
    refine jb_cons (js_ret ?_)
    refine je_add ?_
    refine je_name 2 rfl rfl ?_
    refine je_mulSg ?_
    refine je_str ?_
    refine je_mod ?_
    refine je_fdiv ?_
    refine je_name 0 rfl rfl ?_
    refine je_int ?_
    refine d_fdivI (by walk_at "cd") ?_
    refine je_int ?_
    refine d_modI (by first | decide | omega) ?_
    refine d_mulB (by omega) (by omega) ?_
    refine d_addS (sl2 (n := 300) (m := 10) hll (by rw [repS_len]; omega) (by decide)) ?_
    obtain ⟨k1, k2⟩ := line_mk (q := q) (a := (c_ / 15 % 3).toNat) (m := m) (b := (c_ / 90 % 2).toNat) sp.wd sp.ne sp.len sp.l4 (by omega) (by omega) (by omega) sp.sp
    rcases hl with rfl | ⟨p, hp, rfl⟩
    · exact hk _ k1
    · exact hk _ (k2 p hp)
theorem sc__law_row : FnScope ["_law_cell_here", "_law_more", "_law_moment", "_law_scale_here", "_law_name", "_law_cost_here"] ["_law_cell_here", "_law_more", "_law_moment", "_law_scale_here"] (defScope s__law_row) := ⟨rfl, rfl, rfl, by decide +kernel, rfl, by decide +kernel, by decide +kernel⟩
theorem ok__law_row {f : Addr} {fd : FuncData} (F : Fun K "_law_row" "_law_row" s__law_row f fd) (T : Txt K mg A) (F__law_cost : DCal Pg w K mg base 1 "_law_cost" (S__law_cost A) []) : FnOk Pg w K mg base (L2.CX Pg w) 2 f fd ["_law_cell_here", "_law_more", "_law_moment", "_law_scale_here"] (toSp K (S__law_row A)) := by
  refine fn_data F sc__law_row (fun ds μ kd ke h => ?_) (fun cdv A_ outer s H E c ow ds μ kd ke h => ?_)
  · obtain ⟨c_, m, mom, z, rfl, ⟨c0, m0⟩, ⟨t0, t1⟩, ⟨z1, z2⟩, hk⟩ := h; rfl
  · obtain ⟨c_, m, mom, z, rfl, ⟨c0, m0⟩, ⟨t0, t1⟩, ⟨z1, z2⟩, hk⟩ := h
    refine jb_cons (js_if ?_)
    refine jt_eq c ?_
    refine je_mod ?_
    refine je_name 0 rfl rfl ?_
    refine je_int ?_
    refine d_modI (by first | decide | omega) ?_
    refine je_int ?_
    first | refine d_eqI ?_ | refine d_eqS ?_ | refine d_eqB ?_ | refine d_eqNI ?_
    refine ⟨_, rfl, ?_⟩
    refine ⟨fun h1 => ?_, fun h1 => ?_⟩
    ·
      refine jb_cons (js_ret ?_)
      refine je_ix ?_
      refine (je_lst ?_ : _)
      refine ja_cons ?_
      refine (je_lst ?_ : _)
      refine ja_cons ?_
      refine je_str ?_
      refine ja_nil ?_
      refine ⟨by walk_at "lens", ?_⟩
      refine ja_cons ?_
      refine (je_lst ?_ : _)
      refine ja_cons ?_
      refine je_str ?_
      refine ja_nil ?_
      refine ⟨by walk_at "lens", ?_⟩
      refine ja_nil ?_
      refine ⟨by walk_at "lens", ?_⟩
      refine je_mod ?_
      refine je_fdiv ?_
      refine je_name 0 rfl rfl ?_
      refine je_int ?_
      refine d_fdivI (by walk_at "cd") ?_
      refine je_int ?_
      refine d_modI (by first | decide | omega) ?_
      refine d_ixMap Qy.dv [.names, .kept] .names (.lst _) (by omega) (by simp; omega) ?_
      exact hk _ (qk_ok (by omega))
    refine jb_nil ?_
    refine jb_cons (js_set 4 c rfl ?_)
    refine je_ix ?_
    refine (je_lst ?_ : _)
    refine ja_cons ?_
    refine je_str ?_
    refine ja_cons ?_
    refine je_str ?_
    refine ja_cons ?_
    refine je_str ?_
    refine ja_cons ?_
    refine je_str ?_
    refine ja_nil ?_
    refine ⟨by walk_at "lens", ?_⟩
    refine je_mod ?_
    refine je_fdiv ?_
    refine je_name 0 rfl rfl ?_
    refine je_int ?_
    refine d_fdivI (by walk_at "cd") ?_
    refine je_int ?_
    refine d_modI (by first | decide | omega) ?_
    refine d_ixMap Dv.str ["a", "bb", "abcdefgh", "z"] "" (.lst _) (by omega) (by simp; omega) ?_
    have hnm := nm_a (i := (c_ / 9 % 4).toNat) (by omega)
    generalize (["a", "bb", "abcdefgh", "z"] : List Str).getD (c_ / 9 % 4).toNat "" = nm at *
    refine jb_cons (js_set 5 c rfl ?_)
    refine je_call c F__law_cost (by decide) ?_
    refine ja_cons ?_
    refine je_name 1 rfl rfl ?_
    refine ja_cons ?_
    refine je_name 3 rfl rfl ?_
    refine ja_nil ?_
    refine ⟨_, _, rfl, m0, z1, z2, ?_⟩
    have hcs : 0 ≤ m_law_cost m z ∧ m_law_cost m z ≤ 1000000001 := by have := cost_ok m0 z1; omega
    generalize m_law_cost m z = cst at *
    refine jb_cut (fun e μ2 => ∃ nm : Str, e = [some (.int c_), some (.int m), some (.int mom), some (.int z), some (.str nm), some (.int cst)] ∧ nm ∈ nm8 ∧ μ = μ2) (js_if ?_) ?_
    ·
      
      refine jt_eq c ?_
      refine je_mod ?_
      refine je_fdiv ?_
      refine je_name 0 rfl rfl ?_
      refine je_int ?_
      refine d_fdivI (by walk_at "cd") ?_
      refine je_int ?_
      refine d_modI (by first | decide | omega) ?_
      refine je_int ?_
      first | refine d_eqI ?_ | refine d_eqS ?_ | refine d_eqB ?_ | refine d_eqNI ?_
      refine ⟨_, rfl, ?_⟩
      refine ⟨fun h2 => ?_, fun h2 => ?_⟩
      ·
        refine jb_cons (js_set 4 c rfl ?_)
        refine je_ix ?_
        refine (je_lst ?_ : _)
        refine ja_cons ?_
        refine je_str ?_
        refine ja_cons ?_
        refine je_str ?_
        refine ja_cons ?_
        refine je_str ?_
        refine ja_cons ?_
        refine je_str ?_
        refine ja_nil ?_
        refine ⟨by walk_at "lens", ?_⟩
        refine je_mod ?_
        refine je_name 1 rfl rfl ?_
        refine je_int ?_
        refine d_modI (by first | decide | omega) ?_
        refine d_ixMap Dv.str ["A", "abcdefghi", "a1", "-"] "" (.lst _) (by omega) (by simp; omega) ?_
        have hnm2 := nm_b (i := (m % 4).toNat) (by omega)
        generalize (["A", "abcdefghi", "a1", "-"] : List Str).getD (m % 4).toNat "" = nm2 at *
        refine jb_nil ?_
        exact ⟨_, LeE.refl _, nm2, rfl, hnm2, rfl⟩
      refine jb_nil ?_
      exact ⟨_, LeE.refl _, nm, rfl, hnm, rfl⟩
    clear hnm
    rintro e μ' ⟨nm, rfl, hnm, rfl⟩
    refine jb_cut (fun e μ2 => ∃ cst : Int, e = [some (.int c_), some (.int m), some (.int mom), some (.int z), some (.str nm), some (.int cst)] ∧ (0 ≤ cst ∧ cst ≤ 1000000001) ∧ μ = μ2) (js_if ?_) ?_
    ·
      
      refine jt_eq c ?_
      refine je_mod ?_
      refine je_fdiv ?_
      refine je_name 0 rfl rfl ?_
      refine je_int ?_
      refine d_fdivI (by walk_at "cd") ?_
      refine je_int ?_
      refine d_modI (by first | decide | omega) ?_
      refine je_int ?_
      first | refine d_eqI ?_ | refine d_eqS ?_ | refine d_eqB ?_ | refine d_eqNI ?_
      refine ⟨_, rfl, ?_⟩
      refine ⟨fun h3 => ?_, fun h3 => ?_⟩
      ·
        refine jb_cons (js_set 5 c rfl ?_)
        refine je_ix ?_
        refine (je_lst ?_ : _)
        refine ja_cons ?_
        refine je_int ?_
        refine ja_cons ?_
        refine je_add ?_
        refine je_pow ?_
        refine je_int ?_
        refine je_int ?_
        refine d_powE (v := 1000000000) ⟨by decide, by decide, by decide⟩ rfl ?_
        refine je_int ?_
        first | refine d_addI ?_ | refine d_addL (by constructor) (by constructor) (by walk_at "lens") ?_ | refine d_addS (by walk_at "lens") ?_ | refine d_addT (by walk_at "lens") ?_
        refine ja_nil ?_
        refine ⟨by walk_at "lens", ?_⟩
        refine je_mod ?_
        refine je_name 1 rfl rfl ?_
        refine je_int ?_
        refine d_modI (by first | decide | omega) ?_
        refine d_ixInts [0, (1000000000 + 1)] (.lst _) (by walk_at "ix") (by walk_at "ix") ?_
        refine jb_nil ?_
        exact ⟨_, LeE.refl _, _, rfl, getD_all (P := fun x => 0 ≤ x ∧ x ≤ 1000000001) (by intro x hx; simp only [List.mem_cons, List.not_mem_nil, or_false] at hx; rcases hx with rfl | rfl <;> omega) (by simp; omega), rfl⟩
      refine jb_nil ?_
      exact ⟨_, LeE.refl _, cst, rfl, hcs, rfl⟩
    clear hcs
    rintro e μ' ⟨cst, rfl, hcs, rfl⟩
    refine jb_cut (fun e μ2 => ∃ mom : Int, e = [some (.int c_), some (.int m), some (.int mom), some (.int z), some (.str nm), some (.int cst)] ∧ (0 ≤ mom ∧ mom ≤ 1000000000001) ∧ μ = μ2) (js_if ?_) ?_
    ·
      
      refine jt_eq c ?_
      refine je_mod ?_
      refine je_fdiv ?_
      refine je_name 0 rfl rfl ?_
      refine je_int ?_
      refine d_fdivI (by walk_at "cd") ?_
      refine je_int ?_
      refine d_modI (by first | decide | omega) ?_
      refine je_int ?_
      first | refine d_eqI ?_ | refine d_eqS ?_ | refine d_eqB ?_ | refine d_eqNI ?_
      refine ⟨_, rfl, ?_⟩
      refine ⟨fun h4 => ?_, fun h4 => ?_⟩
      ·
        refine jb_cons (js_set 2 c rfl ?_)
        refine je_ix ?_
        refine (je_lst ?_ : _)
        refine ja_cons ?_
        refine je_add ?_
        refine je_pow ?_
        refine je_int ?_
        refine je_int ?_
        refine d_powE (v := 1000000000000) ⟨by decide, by decide, by decide⟩ rfl ?_
        refine je_int ?_
        first | refine d_addI ?_ | refine d_addL (by constructor) (by constructor) (by walk_at "lens") ?_ | refine d_addS (by walk_at "lens") ?_ | refine d_addT (by walk_at "lens") ?_
        refine ja_cons ?_
        refine je_cB (call_max2 c.calm) T.m_max PyProof.Rows.boot_max ?_
        refine ja_cons ?_
        refine je_int ?_
        refine ja_cons ?_
        refine je_sub ?_
        refine je_sub ?_
        refine je_name 2 rfl rfl ?_
        refine je_int ?_
        refine d_subI ?_
        refine je_mod ?_
        refine je_name 1 rfl rfl ?_
        refine je_int ?_
        refine d_modI (by first | decide | omega) ?_
        refine d_subI ?_
        refine ja_nil ?_
        refine d_max2 ?_
        refine ja_nil ?_
        refine ⟨by walk_at "lens", ?_⟩
        refine je_mod ?_
        refine je_fdiv ?_
        refine je_name 1 rfl rfl ?_
        refine je_int ?_
        refine d_fdivI (by walk_at "cd") ?_
        refine je_int ?_
        refine d_modI (by first | decide | omega) ?_
        refine d_ixInts [(1000000000000 + 1), (max 0 ((mom - 1) - (m % 5)))] (.lst _) (by walk_at "ix") (by walk_at "ix") ?_
        refine jb_nil ?_
        exact ⟨_, LeE.refl _, _, rfl, getD_all (P := fun x => 0 ≤ x ∧ x ≤ 1000000000001) (by intro x hx; simp only [List.mem_cons, List.not_mem_nil, or_false] at hx; rcases hx with rfl | rfl <;> omega) (by simp; omega), rfl⟩
      refine jb_nil ?_
      exact ⟨_, LeE.refl _, mom, rfl, ⟨t0, by omega⟩, rfl⟩
    clear t0 t1
    rintro e μ' ⟨mom, rfl, ht, rfl⟩
    refine jb_cons (js_ret ?_)
    refine (je_lst ?_ : _)
    refine ja_cons ?_
    refine je_ix ?_
    refine (je_lst ?_ : _)
    refine ja_cons ?_
    refine je_str ?_
    refine ja_cons ?_
    refine je_str ?_
    refine ja_cons ?_
    refine je_str ?_
    refine ja_nil ?_
    refine ⟨by walk_at "lens", ?_⟩
    refine je_mod ?_
    refine je_fdiv ?_
    refine je_name 0 rfl rfl ?_
    refine je_int ?_
    refine d_fdivI (by walk_at "cd") ?_
    refine je_int ?_
    refine d_modI (by first | decide | omega) ?_
    refine d_ixMap Dv.str ["ask", "visit", "visit"] "" (.lst _) (by omega) (by simp; omega) ?_
    obtain ⟨v, ev⟩ := way_mem (i := (c_ / 432 % 3).toNat) (by omega)
    rw [ev]
    refine ja_cons ?_
    refine je_name 4 rfl rfl ?_
    refine ja_cons ?_
    refine je_name 2 rfl rfl ?_
    refine ja_cons ?_
    refine je_name 5 rfl rfl ?_
    refine ja_nil ?_
    refine ⟨by walk_at "lens", ?_⟩
    exact hk (.call v nm mom cst) ⟨hnm, ht, hcs⟩
theorem sc_law : FnScope ["_law_script", "_law_scale_here", "_law_own", "_law_common", "_law_lines", "_law_gate", "_law_due", "_law_moment", "_law_k", "_law_cell_here", "_law_asked", "_law_found", "_law_bound_here", "_law_part"] ["_law_script"] (defScope s_law) := ⟨rfl, rfl, rfl, by decide +kernel, rfl, by decide +kernel, by decide +kernel⟩
theorem ok_law {f : Addr} {fd : FuncData} (F : Fun K "law" "law" s_law f fd) (T : Txt K mg A) (F__law_scale : DCal Pg w K mg base 1 "_law_scale" (S__law_scale A) []) (F_Gate : DMak Pg w K mg base 5 "Gate" A.CG (S_Gate_init A) []) (F_play : DCal Pg w K mg base 10 "play" (S_play A) []) (F__law_cell : DCal Pg w K mg base 1 "_law_cell" (S__law_cell A) []) (F__law_bound : DCal Pg w K mg base 1 "_law_bound" (S__law_bound A) []) (F__law_row : DCal Pg w K mg base 2 "_law_row" (S__law_row A) []) (F__law_made : DCal Pg w K mg base 4 "_law_made" (S__law_made A) []) (F__law_spread : DCal Pg w K mg base 1 "_law_spread" (S__law_spread A) []) (F__law_answer : DCal Pg w K mg base 8 "_law_answer" (S__law_answer A) []) (F__law_gap : DCal Pg w K mg base 1 "_law_gap" (S__law_gap A) []) : FnOk Pg w K mg base (L2.CX Pg w) 11 f fd ["_law_script"] (toSp K (S_law A)) := by
  refine fn_data F sc_law (fun ds μ kd ke h => ?_) (fun cdv A_ outer s H E c ow ds μ kd ke h => ?_)
  · obtain ⟨ns, rfl, hns, rfl, hk⟩ := h; rfl
  · obtain ⟨ns, rfl, hns, rfl, hk⟩ := h
    have hz := scale_ok (m_law_cell ns 0)
    have hb0 := bound_ok (cell_lo ns 1) hz.1 hz.2
    have hb1 := bound_sz (cell_lo ns 1) hz.1 hz.2
    have hb2 := hb0.lo
    have c5 := cell_lo ns 5
    have c10 := cell_lo ns 10
    refine jb_cons (js_set 1 c rfl ?_)
    refine je_call c F__law_scale (by decide) ?_
    refine ja_cons ?_
    refine je_call c F__law_cell (by decide) ?_
    refine ja_cons ?_
    refine je_name 0 rfl rfl ?_
    refine ja_cons ?_
    refine je_int ?_
    refine ja_nil ?_
    refine ⟨ns, _, rfl, hns, ?_⟩
    refine ja_nil ?_
    refine ⟨_, rfl, ?_⟩
    refine jb_cons (js_setLcG (x := "_law_k") 8 2 c.calm c.nd rfl rfl (sw_true rfl rfl rfl (by decide +kernel)) (blkOk_by (N := ["_law_script", "_law_scale_here", "_law_own", "_law_common", "_law_lines", "_law_gate", "_law_due", "_law_moment", "_law_k", "_law_cell_here", "_law_asked", "_law_found", "_law_bound_here", "_law_part"]) (sc := defScope s_law) (by decide +kernel)) (fun _ _ _ _ _ => pg_name (i := 8) c.nd rfl (Or.inl rfl)) ?_)
    refine ji_range1 T.m_range ?_
    refine ja_cons ?_
    refine je_mod ?_
    refine je_call c F__law_cell (by decide) ?_
    refine ja_cons ?_
    refine je_name 0 rfl rfl ?_
    refine ja_cons ?_
    refine je_int ?_
    refine ja_nil ?_
    refine ⟨ns, _, rfl, hns, ?_⟩
    refine je_int ?_
    refine d_modI (by first | decide | omega) ?_
    refine ja_nil ?_
    refine ⟨_, rfl, by omega, by omega, ?_⟩
    refine lc_map (fun i : Nat => Dv.int (0 + (i : Int))) (List.range (m_law_cell ns 5 % 5).toNat) (fun (i : Nat) => some (m_law_bound (m_law_cell ns (1 + (0 + (i : Int)))) (m_law_scale (m_law_cell ns 0))).tv) rfl trivial (by rw [sizeLine_eq, List.length_range]; omega) (fun j x μ' hx hμ => ?_) ?_
    ·
      intro s1 H1 C1 cl1 fp1
      refine ⟨fun _ s2 H2 C2 cl2 fp2 => ?_, fun z => nomatch z⟩
      
      refine je_call c.blk F__law_bound (by decide) ?_
      refine ja_cons ?_
      refine je_call c.blk F__law_cell (by decide) ?_
      refine ja_cons ?_
      refine je_name 0 rfl rfl ?_
      refine ja_cons ?_
      refine je_add ?_
      refine je_int ?_
      refine je_name 8 rfl rfl ?_
      first | refine d_addI ?_ | refine d_addL (by constructor) (by constructor) (by walk_at "lens") ?_ | refine d_addS (by walk_at "lens") ?_ | refine d_addT (by walk_at "lens") ?_
      refine ja_nil ?_
      refine ⟨ns, _, rfl, hns, ?_⟩
      refine ja_cons ?_
      refine je_name 1 rfl rfl ?_
      refine ja_nil ?_
      refine ⟨_, _, rfl, cell_lo _ _, by omega, by omega, ?_⟩
      exact ⟨rfl, rfl⟩
    rw [fm_tvs]
    refine jb_cons (js_setLcG (x := "_law_k") 8 3 c.calm c.nd rfl rfl (sw_true rfl rfl rfl (by decide +kernel)) (blkOk_by (N := ["_law_script", "_law_scale_here", "_law_own", "_law_common", "_law_lines", "_law_gate", "_law_due", "_law_moment", "_law_k", "_law_cell_here", "_law_asked", "_law_found", "_law_bound_here", "_law_part"]) (sc := defScope s_law) (by decide +kernel)) (fun _ _ _ _ _ => pg_name (i := 8) c.nd rfl (Or.inl rfl)) ?_)
    refine ji_range1 T.m_range ?_
    refine ja_cons ?_
    refine je_mod ?_
    refine je_call c F__law_cell (by decide) ?_
    refine ja_cons ?_
    refine je_name 0 rfl rfl ?_
    refine ja_cons ?_
    refine je_int ?_
    refine ja_nil ?_
    refine ⟨ns, _, rfl, hns, ?_⟩
    refine je_int ?_
    refine d_modI (by first | decide | omega) ?_
    refine ja_nil ?_
    refine ⟨_, rfl, by omega, by omega, ?_⟩
    refine lc_map (fun i : Nat => Dv.int (0 + (i : Int))) (List.range (m_law_cell ns 10 % 5).toNat) (fun (i : Nat) => some (m_law_bound (m_law_cell ns (6 + (0 + (i : Int)))) (m_law_scale (m_law_cell ns 0))).tv) rfl trivial (by rw [sizeLine_eq, List.length_range]; omega) (fun j x μ' hx hμ => ?_) ?_
    ·
      intro s1 H1 C1 cl1 fp1
      refine ⟨fun _ s2 H2 C2 cl2 fp2 => ?_, fun z => nomatch z⟩
      
      refine je_call c.blk F__law_bound (by decide) ?_
      refine ja_cons ?_
      refine je_call c.blk F__law_cell (by decide) ?_
      refine ja_cons ?_
      refine je_name 0 rfl rfl ?_
      refine ja_cons ?_
      refine je_add ?_
      refine je_int ?_
      refine je_name 8 rfl rfl ?_
      first | refine d_addI ?_ | refine d_addL (by constructor) (by constructor) (by walk_at "lens") ?_ | refine d_addS (by walk_at "lens") ?_ | refine d_addT (by walk_at "lens") ?_
      refine ja_nil ?_
      refine ⟨ns, _, rfl, hns, ?_⟩
      refine ja_cons ?_
      refine je_name 1 rfl rfl ?_
      refine ja_nil ?_
      refine ⟨_, _, rfl, cell_lo _ _, by omega, by omega, ?_⟩
      exact ⟨rfl, rfl⟩
    rw [fm_tvs]
    have lO := bds_len ns 1 (m_law_scale (m_law_cell ns 0)) (m_law_cell ns 5 % 5).toNat
    have kO := bds_ok (ns := ns) (o := 1) hz.1 hz.2 (m_law_cell ns 5 % 5).toNat
    generalize bds ns 1 (m_law_scale (m_law_cell ns 0)) (m_law_cell ns 5 % 5).toNat = O at *
    replace lO : O.length ≤ 4 := by omega
    have lC := bds_len ns 6 (m_law_scale (m_law_cell ns 0)) (m_law_cell ns 10 % 5).toNat
    have kC := bds_ok (ns := ns) (o := 6) hz.1 hz.2 (m_law_cell ns 10 % 5).toNat
    generalize bds ns 6 (m_law_scale (m_law_cell ns 0)) (m_law_cell ns 10 % 5).toNat = C at *
    replace lC : C.length ≤ 4 := by omega
    refine jb_cons (js_setLcG (x := "_law_bound_here") 12 4 c.calm c.nd rfl rfl (sw_true rfl rfl rfl (by decide +kernel)) (blkOk_by (N := ["_law_script", "_law_scale_here", "_law_own", "_law_common", "_law_lines", "_law_gate", "_law_due", "_law_moment", "_law_k", "_law_cell_here", "_law_asked", "_law_found", "_law_bound_here", "_law_part"]) (sc := defScope s_law) (by decide +kernel)) (fun _ _ _ _ _ => pg_name (i := 12) c.nd rfl (Or.inl rfl)) ?_)
    refine ji_seq ?_
    refine je_name 2 rfl rfl ?_
    refine ⟨_, by walk_at "sq", ?_⟩
    refine lc_map Bd.tv O (fun b => some (Dv.str (bline "own" b))) rfl (.lst _) (by rw [sizeLine_eq]; omega) (fun jb b μb hb hμb => ?_) ?_
    ·
      intro s1 H1 C1 cl1 fp1
      refine ⟨fun _ s2 H2 C2 cl2 fp2 => ?_, fun z => nomatch z⟩
      have okb := kO b (List.mem_of_getElem? hb)
      obtain ⟨bz1, _⟩ := bline_ok (w := "own") List.mem_cons_self okb
      refine je_join ?_
      refine je_str ?_
      refine ⟨DTy.str, ?_⟩
      refine ja_cons ?_
      refine je_add ?_
      refine (je_lst ?_ : _)
      refine ja_cons ?_
      refine je_str ?_
      refine ja_nil ?_
      refine ⟨by walk_at "lens", ?_⟩
      refine je_lcG (x := "_law_part") 13 c.blk.calm c.blk.nd (blkOk_by (N := ["_law_script", "_law_scale_here", "_law_own", "_law_common", "_law_lines", "_law_gate", "_law_due", "_law_moment", "_law_k", "_law_cell_here", "_law_asked", "_law_found", "_law_bound_here", "_law_part"]) (sc := { kind := .function, names := [(".0", .local), ("_law_bound_here", .local)], isGenerator := false, isCoroutine := false }) (by decide +kernel)) (fun _ _ _ _ _ => pg_name (i := 13) c.blk.nd rfl (Or.inl rfl)) ?_
      refine ji_tup ?_
      refine je_name 12 rfl rfl ?_
      refine ⟨_, tv_eq b, ?_⟩
      refine lc_map (fun d : Dv => d) [.str b.kind, .int b.sz, .int b.par] (fun d => some (strD d)) rfl trivial (by rw [sizeLine_eq]; simp) (fun j x μ' hx hμ => ?_) ?_
      ·
        intro s1 H1 C1 cl1 fp1
        refine ⟨fun _ s2 H2 C2 cl2 fp2 => ?_, fun z => nomatch z⟩
        have si := bd_parts okb x (List.mem_of_getElem? hx)
        refine je_cT call_str_both T.m_str PyProof.Rows.boot_str ?_
        refine ja_cons ?_
        refine je_name 13 rfl rfl ?_
        refine ja_nil ?_
        refine d_strB si ?_
        exact ⟨rfl, rfl⟩
      
      refine d_addL (.lst _) (.lst _) (by rw [sizeLine_eq]; show 1 + 3 ≤ _; decide) ?_
      refine ja_nil ?_
      refine d_join ["own", b.kind, numS b.sz, numS b.par] (.lst _) bz1 ?_
      exact ⟨rfl, rfl⟩
    rw [fm_line]
    refine jb_cons (js_set 4 c rfl ?_)
    refine je_add ?_
    refine je_name 4 rfl rfl ?_
    refine je_lcG (x := "_law_bound_here") 12 c.calm c.nd (blkOk_by (N := ["_law_script", "_law_scale_here", "_law_own", "_law_common", "_law_lines", "_law_gate", "_law_due", "_law_moment", "_law_k", "_law_cell_here", "_law_asked", "_law_found", "_law_bound_here", "_law_part"]) (sc := defScope s_law) (by decide +kernel)) (fun _ _ _ _ _ => pg_name (i := 12) c.nd rfl (Or.inl rfl)) ?_
    refine ji_seq ?_
    refine je_name 3 rfl rfl ?_
    refine ⟨_, by walk_at "sq", ?_⟩
    refine lc_map Bd.tv C (fun b => some (Dv.str (bline "common" b))) rfl (.lst _) (by rw [sizeLine_eq]; omega) (fun jb b μb hb hμb => ?_) ?_
    ·
      intro s1 H1 C1 cl1 fp1
      refine ⟨fun _ s2 H2 C2 cl2 fp2 => ?_, fun z => nomatch z⟩
      have okb := kC b (List.mem_of_getElem? hb)
      obtain ⟨bz1, _⟩ := bline_ok (w := "common") (List.mem_cons_of_mem _ List.mem_cons_self) okb
      refine je_join ?_
      refine je_str ?_
      refine ⟨DTy.str, ?_⟩
      refine ja_cons ?_
      refine je_add ?_
      refine (je_lst ?_ : _)
      refine ja_cons ?_
      refine je_str ?_
      refine ja_nil ?_
      refine ⟨by walk_at "lens", ?_⟩
      refine je_lcG (x := "_law_part") 13 c.blk.calm c.blk.nd (blkOk_by (N := ["_law_script", "_law_scale_here", "_law_own", "_law_common", "_law_lines", "_law_gate", "_law_due", "_law_moment", "_law_k", "_law_cell_here", "_law_asked", "_law_found", "_law_bound_here", "_law_part"]) (sc := { kind := .function, names := [(".0", .local), ("_law_bound_here", .local)], isGenerator := false, isCoroutine := false }) (by decide +kernel)) (fun _ _ _ _ _ => pg_name (i := 13) c.blk.nd rfl (Or.inl rfl)) ?_
      refine ji_tup ?_
      refine je_name 12 rfl rfl ?_
      refine ⟨_, tv_eq b, ?_⟩
      refine lc_map (fun d : Dv => d) [.str b.kind, .int b.sz, .int b.par] (fun d => some (strD d)) rfl trivial (by rw [sizeLine_eq]; simp) (fun j x μ' hx hμ => ?_) ?_
      ·
        intro s1 H1 C1 cl1 fp1
        refine ⟨fun _ s2 H2 C2 cl2 fp2 => ?_, fun z => nomatch z⟩
        have si := bd_parts okb x (List.mem_of_getElem? hx)
        refine je_cT call_str_both T.m_str PyProof.Rows.boot_str ?_
        refine ja_cons ?_
        refine je_name 13 rfl rfl ?_
        refine ja_nil ?_
        refine d_strB si ?_
        exact ⟨rfl, rfl⟩
      
      refine d_addL (.lst _) (.lst _) (by rw [sizeLine_eq]; show 1 + 3 ≤ _; decide) ?_
      refine ja_nil ?_
      refine d_join ["common", b.kind, numS b.sz, numS b.par] (.lst _) bz1 ?_
      exact ⟨rfl, rfl⟩
    rw [fm_line]
    refine d_addM (.lst _) (.lst _) (by rw [List.length_map, List.length_map, List.length_map, List.length_map, sizeLine_eq]; omega) fun la hla => ?_
    rw [← List.map_append]
    refine jb_cons (js_set 5 c rfl ?_)
    refine je_make c F_Gate (by decide) ?_
    refine ja_cons ?_
    refine je_lcG (x := "_law_bound_here") 12 c.calm c.nd (blkOk_by (N := ["_law_script", "_law_scale_here", "_law_own", "_law_common", "_law_lines", "_law_gate", "_law_due", "_law_moment", "_law_k", "_law_cell_here", "_law_asked", "_law_found", "_law_bound_here", "_law_part"]) (sc := defScope s_law) (by decide +kernel)) (fun _ _ _ _ _ => pg_name (i := 12) c.nd rfl (Or.inl rfl)) ?_
    refine ji_seq ?_
    refine je_name 2 rfl rfl ?_
    refine ⟨_, by walk_at "sq", ?_⟩
    refine lc_map Bd.tv O (fun b => some (b.pv A)) rfl (.lst _) (by rw [sizeLine_eq]; omega) (fun jb b μb hb hμb => ?_) ?_
    ·
      intro s1 H1 C1 cl1 fp1
      refine ⟨fun _ s2 H2 C2 cl2 fp2 => ?_, fun z => nomatch z⟩
      have okb := kO b (List.mem_of_getElem? hb)
      refine je_call c.blk F__law_made (by decide) ?_
      refine ja_cons ?_
      refine je_name 12 rfl rfl ?_
      refine ja_nil ?_
      refine ⟨b, rfl, okb, ?_⟩
      exact ⟨rfl, rfl⟩
    rw [fm_pv]
    refine ja_cons ?_
    refine je_lcG (x := "_law_bound_here") 12 c.calm c.nd (blkOk_by (N := ["_law_script", "_law_scale_here", "_law_own", "_law_common", "_law_lines", "_law_gate", "_law_due", "_law_moment", "_law_k", "_law_cell_here", "_law_asked", "_law_found", "_law_bound_here", "_law_part"]) (sc := defScope s_law) (by decide +kernel)) (fun _ _ _ _ _ => pg_name (i := 12) c.nd rfl (Or.inl rfl)) ?_
    refine ji_seq ?_
    refine je_name 3 rfl rfl ?_
    refine ⟨_, by walk_at "sq", ?_⟩
    refine lc_map Bd.tv C (fun b => some (b.pv A)) rfl (.lst _) (by rw [sizeLine_eq]; omega) (fun jb b μb hb hμb => ?_) ?_
    ·
      intro s1 H1 C1 cl1 fp1
      refine ⟨fun _ s2 H2 C2 cl2 fp2 => ?_, fun z => nomatch z⟩
      have okb := kC b (List.mem_of_getElem? hb)
      refine je_call c.blk F__law_made (by decide) ?_
      refine ja_cons ?_
      refine je_name 12 rfl rfl ?_
      refine ja_nil ?_
      refine ⟨b, rfl, okb, ?_⟩
      exact ⟨rfl, rfl⟩
    rw [fm_pv]
    refine ja_nil ?_
    have hl0 : (updM (fun _ => none) la (.lst ((O.map (bline "own") ++ C.map (bline "common")).map Dv.str)) : M) la = some (.lst ((O.map (bline "own") ++ C.map (bline "common")).map Dv.str)) := updM_same
    refine fun g hg => ⟨g, _, _, O.map (Bd.pv A), C.map (Bd.pv A), O.map some, C.map some, rfl, updM_same, .lst _, .lst _, bths kO, bths kC, ⟨by rw [List.length_map, sizeLine_eq]; omega, by rw [List.length_map, sizeLine_eq]; omega⟩, fun _ pd cas μ1 fr foot G => ⟨rfl, .inl ?_⟩, fun gg => absurd gg (by rw [goodBs_some (by omega), goodBs_some (by omega)]; decide)⟩
    rw [fm_some_id, fm_some_id] at G
    have la1 := fr la _ ((updM_ne (ne_ofM hl0 hg)).trans hl0) (ne_ofM hl0 hg)
    refine jb_cons (js_set 6 c rfl ?_)
    refine je_mul ?_
    refine (je_lst ?_ : _)
    refine ja_cons ?_
    refine je_str ?_
    refine ja_nil ?_
    refine ⟨by walk_at "lens", ?_⟩
    refine je_cB call_lenA T.m_len PySem.boot_len ?_
    refine ja_cons ?_
    refine je_name 4 rfl rfl ?_
    refine ja_nil ?_
    refine d_lenM (.obj la1) ?_
    first | rw [List.length_map, List.length_append, List.length_map, List.length_map] | rw [List.length_append, List.length_map, List.length_map]
    refine d_mulM (.lst _) (by omega) fun da hda => ?_
    rw [Int.toNat_natCast]
    refine jb_cons (js_set 7 c rfl ?_)
    refine je_int ?_
    refine jb_cons (js_forT 8 c.calm ow (pg_name (i := 8) c.nd rfl (by first | exact Or.inl rfl | exact Or.inr rfl)) ?_)
    refine ji_range1 T.m_range ?_
    refine ja_cons ?_
    refine je_cB call_lenA T.m_len PySem.boot_len ?_
    refine ja_cons ?_
    refine je_name 0 rfl rfl ?_
    refine ja_nil ?_
    first | refine d_lenM (by walk_at "sq") ?_ | refine d_lenL (by walk_at "sq") ?_ | refine d_lenT ?_ | refine d_lenS (by walk_at "lens") ?_
    refine ja_nil ?_
    refine ⟨_, rfl, by omega, by omega, ?_⟩
    refine ⟨fun j e μ' => ∃ s sR pas lines due mom, e = [some (.fro (ns.map Dv.int)), some (.int (m_law_scale (m_law_cell ns 0))), some (.lst (O.map Bd.tv)), some (.lst (C.map Bd.tv)), some (.obj la), some (.obj g), some (.obj da), some (.int mom), none, none, none, none, none, none] ∧ K12I A μ' g la da pd cas pas s sR lines due j ∧ (0 ≤ mom ∧ mom ≤ 1000000000000), ?_, fun _ _ _ _ => trivial, fun j x e μ' hx iv => ?_, fun e μ' iv n' hle => ?_⟩
    · exact ⟨_, LeE.refl _, _, _, _, _, _, 0, rfl, K12I.start kO kC lO lC (G.ext (ext_newS hda)) ((updM_ne (ne_ofM la1 hda)).trans la1) (by rw [updM_same, List.map_replicate]) (ne_ofM la1 hda), by decide⟩
    ·
      obtain ⟨s, sR, pas, lines, due, mom, rfl, I, hm1⟩ := iv
      obtain ⟨rfl, hj⟩ := rng_item0 hx
      have hj : j < 63 := by omega
      refine jb_cons (js_set 9 c rfl ?_)
      refine je_call c F__law_cell (by decide) ?_
      refine ja_cons ?_
      refine je_name 0 rfl rfl ?_
      refine ja_cons ?_
      refine je_add ?_
      refine je_int ?_
      refine je_mul ?_
      refine je_int ?_
      refine je_name 8 rfl rfl ?_
      first | refine d_mulI (by walk_at "cm") ?_ | refine d_mulL1 (by constructor) (by omega) ?_
      first | refine d_addI ?_ | refine d_addL (by constructor) (by constructor) (by walk_at "lens") ?_ | refine d_addS (by walk_at "lens") ?_ | refine d_addT (by walk_at "lens") ?_
      refine ja_nil ?_
      refine ⟨ns, _, rfl, hns, ?_⟩
      refine jb_cons (js_set 7 c rfl ?_)
      refine je_cB (call_min2 c.calm) T.m_min PyProof.Rows.boot_min ?_
      refine ja_cons ?_
      refine je_pow ?_
      refine je_int ?_
      refine je_int ?_
      refine d_powE (v := 1000000000000) ⟨by decide, by decide, by decide⟩ rfl ?_
      refine ja_cons ?_
      refine je_add ?_
      refine je_name 7 rfl rfl ?_
      refine je_call c F__law_gap (by decide) ?_
      refine ja_cons ?_
      refine je_call c F__law_cell (by decide) ?_
      refine ja_cons ?_
      refine je_name 0 rfl rfl ?_
      refine ja_cons ?_
      refine je_add ?_
      refine je_int ?_
      refine je_mul ?_
      refine je_int ?_
      refine je_name 8 rfl rfl ?_
      first | refine d_mulI (by walk_at "cm") ?_ | refine d_mulL1 (by constructor) (by omega) ?_
      first | refine d_addI ?_ | refine d_addL (by constructor) (by constructor) (by walk_at "lens") ?_ | refine d_addS (by walk_at "lens") ?_ | refine d_addT (by walk_at "lens") ?_
      refine ja_nil ?_
      refine ⟨ns, _, rfl, hns, ?_⟩
      refine ja_nil ?_
      refine ⟨_, rfl, ?_⟩
      first | refine d_addI ?_ | refine d_addL (by constructor) (by constructor) (by walk_at "lens") ?_ | refine d_addS (by walk_at "lens") ?_ | refine d_addT (by walk_at "lens") ?_
      refine ja_nil ?_
      refine d_min2 ?_
      have hgp := gap_ok (cell_lo ns (21 + 3 * (j : Int)))
      have hm2 : 0 ≤ min 1000000000000 (mom + m_law_gap (m_law_cell ns (21 + 3 * (j : Int)))) ∧ min 1000000000000 (mom + m_law_gap (m_law_cell ns (21 + 3 * (j : Int)))) ≤ 1000000000000 := by omega
      generalize min 1000000000000 (mom + m_law_gap (m_law_cell ns (21 + 3 * (j : Int)))) = mom2 at *
      refine jb_cons (js_set 10 c rfl ?_)
      refine je_call c F__law_row (by decide) ?_
      refine ja_cons ?_
      refine je_name 9 rfl rfl ?_
      refine ja_cons ?_
      refine je_call c F__law_cell (by decide) ?_
      refine ja_cons ?_
      refine je_name 0 rfl rfl ?_
      refine ja_cons ?_
      refine je_add ?_
      refine je_int ?_
      refine je_mul ?_
      refine je_int ?_
      refine je_name 8 rfl rfl ?_
      first | refine d_mulI (by walk_at "cm") ?_ | refine d_mulL1 (by constructor) (by omega) ?_
      first | refine d_addI ?_ | refine d_addL (by constructor) (by constructor) (by walk_at "lens") ?_ | refine d_addS (by walk_at "lens") ?_ | refine d_addT (by walk_at "lens") ?_
      refine ja_nil ?_
      refine ⟨ns, _, rfl, hns, ?_⟩
      refine ja_cons ?_
      refine je_name 7 rfl rfl ?_
      refine ja_cons ?_
      refine je_name 1 rfl rfl ?_
      refine ja_nil ?_
      refine ⟨_, _, _, _, rfl, ⟨cell_lo _ _, cell_lo _ _⟩, hm2, hz, fun q hq => ?_⟩
      obtain ⟨xs, exs, xl, xp⟩ := q_parts q
      have hcc := cell_lo ns (20 + 3 * (j : Int))
      have hlla := I.lla
      have hlln := I.len
      have hdln := I.run.len
      refine jb_cons (js_expr ?_)
      refine je_append ?_
      refine je_name 4 rfl rfl ?_
      refine ⟨_, rfl, ⟨_, by first | assumption | exact updM_same | (rw [updM_ne (by assumption)]; assumption)⟩, ?_⟩
      refine je_call c F__law_spread (by decide) ?_
      refine ja_cons ?_
      refine je_fdiv ?_
      refine je_name 9 rfl rfl ?_
      refine je_int ?_
      refine d_fdivI (by walk_at "cd") ?_
      refine ja_cons ?_
      refine je_lcG (x := "_law_part") 13 c.calm c.nd (blkOk_by (N := ["_law_script", "_law_scale_here", "_law_own", "_law_common", "_law_lines", "_law_gate", "_law_due", "_law_moment", "_law_k", "_law_cell_here", "_law_asked", "_law_found", "_law_bound_here", "_law_part"]) (sc := defScope s_law) (by decide +kernel)) (fun _ _ _ _ _ => pg_name (i := 13) c.nd rfl (Or.inl rfl)) ?_
      refine ji_seq ?_
      refine je_name 10 rfl rfl ?_
      refine ⟨xs, by rw [exs]; exact .lst _, ?_⟩
      refine lc_map (fun d : Dv => d) xs (fun d => some (strD d)) (List.map_id' _).symm (by rw [exs]; exact .lst _) (by rw [sizeLine_eq]; omega) (fun jx x μx hx hμx => ?_) ?_
      ·
        intro s1 H1 C1 cl1 fp1
        refine ⟨fun _ s2 H2 C2 cl2 fp2 => ?_, fun z => nomatch z⟩
        have si := (xp hq).1 x (List.mem_of_getElem? hx)
        refine je_cT call_str_both T.m_str PyProof.Rows.boot_str ?_
        refine ja_cons ?_
        refine je_name 13 rfl rfl ?_
        refine ja_nil ?_
        refine d_strB si ?_
        exact ⟨rfl, rfl⟩
      rw [(xp hq).2]
      refine ja_nil ?_
      refine ⟨_, q, rfl, by omega, hq, fun l hl => ?_⟩
      refine ⟨_, by first | assumption | exact updM_same | (rw [updM_ne (by assumption)]; assumption), by walk_at "lens", ?_⟩
      obtain ⟨G1, d1⟩ := I.line (.lst (lines.map Dv.str ++ [.str l]))
      refine jb_cons (js_expr ?_)
      refine je_append ?_
      refine je_name 6 rfl rfl ?_
      refine ⟨_, rfl, ⟨_, by first | assumption | exact updM_same | (rw [updM_ne (by assumption)]; assumption)⟩, ?_⟩
      refine je_call c F__law_answer (by decide) ?_
      refine ja_cons ?_
      refine je_name 5 rfl rfl ?_
      refine ja_cons ?_
      refine je_name 10 rfl rfl ?_
      refine ja_nil ?_
      refine ⟨g, s, q, pd, cas, pas, rfl, G1, ⟨I.ok, I.ppl, by have := I.all; omega⟩, hq, fun μ2 pas2 G2 fr2 => ?_⟩
      obtain ⟨d2, sR2, I2⟩ := I.step (by omega) hq hl G2 fr2
      refine ⟨_, by first | assumption | exact updM_same | (rw [updM_ne (by assumption)]; assumption), by walk_at "lens", ?_⟩
      refine jb_nil ?_
      refine ⟨_, ?_, _, sR2, pas2, _, _, mom2, rfl, I2, hm2⟩
      walk_at "le"
    obtain ⟨s, sR, pas, lines, due, mom, rfl, I, hm1⟩ := iv
    refine JB.le ?_ hle
    rw [rng_len, Int.toNat_natCast] at I
    obtain ⟨p1, p2, p3, p4, p5⟩ := play_lines I.run I.tx (by have := I.len; omega) (by have := I.cnt; omega)
    refine jb_cons (js_set 11 c rfl ?_)
    refine je_call c F_play (by decide) ?_
    refine ja_cons ?_
    refine je_join ?_
    refine je_str ?_
    refine ⟨DTy.str, ?_⟩
    refine ja_cons ?_
    refine je_name 4 rfl rfl ?_
    refine ja_nil ?_
    refine d_join lines (.obj I.lla) p1 ?_
    refine ja_nil ?_
    refine ⟨_, rfl, p2, p3, p4, fun μ1x ex1 => ?_⟩
    rw [p5]
    refine jb_cons (js_ret ?_)
    apply je_andP
    ·
      refine je_cB call_isiA T.m_isinstance PyProof.Rows.boot_isinstance ?_
      refine ja_cons ?_
      refine je_name 11 rfl rfl ?_
      refine ja_cons ?_
      refine je_bty T.m_list PyProof.Rows.boot_list ?_
      refine ja_nil ?_
      refine d_isi (.lst _) (.ty _) (kit_ty (r := true) (by decide +kernel)) ?_
      exact ⟨rfl, rfl⟩
    ·
      intro h1
      refine je_one ?_
      refine je_eq c ?_
      refine je_name 11 rfl rfl ?_
      refine je_name 6 rfl rfl ?_
      refine d_eqStrs due due (.lst _) (.obj (ex1 _ _ I.lda)) I.du I.du ?_
      exact ⟨rfl, rfl⟩
    rw [decide_eq_true rfl]
    exact hk _
end
theorem all_mk {l : PySem.W.OpenLaw} {w : World} {K : Kf} {h : Heap} {mg : Str → Option Value} {fa aCGE aCNB aCNM aCNC aCNN aCLT aCBR aCJM aCWM aCJ aCW aCG aCTU f0 f1 f2 f3 f4 f5 f6 f7 f8 f9 f10 f11 f12 f13 f14 f15 f16 f17 f18 f19 f20 f21 f22 f23 f24 f25 f26 f27 f28 f29 f30 f31 f32 f33 f34 f35 f36 f37 f38 f39 f40 f41 f42 f43 f44 f45 f46 f47 : Addr} (X : K.In h) (G : h.Ns mainGlobals mg) (hfa : mg "law" = some (.ref fa))
    {od0 an0 od1 an1 od2 an2 od3 an3 od4 an4 od5 an5 od6 an6 od7 an7 od8 an8 od9 an9 od10 an10 od11 an11 od12 an12 od13 an13 od14 an14 od15 an15 od16 an16 od17 an17 od18 an18 od19 an19 od20 an20 od21 an21 od22 an22 od23 an23 od24 an24 od25 an25 od26 an26 od27 an27 od28 an28 od29 an29 od30 an30 od31 an31 od32 an32 od33 an33 od34 an34 od35 an35 od36 an36 od37 an37 od38 an38 od39 an39 od40 an40 od41 an41 od42 an42 od43 an43 od44 an44 od45 an45 od46 an46 od47 an47 : Option Addr} {sl0 sl1 sl2 sl3 sl4 sl5 sl6 sl7 sl8 sl9 sl10 sl11 sl12 sl13 sl14 sl15 sl16 sl17 sl18 sl19 sl20 sl21 sl22 sl23 sl24 sl25 sl26 sl27 sl28 sl29 sl30 sl31 sl32 sl33 sl34 sl35 sl36 sl37 sl38 sl39 sl40 sl41 sl42 sl43 sl44 sl45 sl46 sl47 : Array (Option Value)} {oc0 kV0 dc0 pm0 cd0 ct0 oc1 kV1 dc1 pm1 cd1 ct1 oc2 kV2 dc2 pm2 cd2 ct2 oc3 kV3 dc3 pm3 cd3 ct3 oc4 kV4 dc4 pm4 cd4 ct4 oc5 kV5 dc5 pm5 cd5 ct5 oc6 kV6 dc6 pm6 cd6 ct6 oc7 kV7 dc7 pm7 cd7 ct7 oc8 kV8 dc8 pm8 cd8 ct8 oc9 kV9 dc9 pm9 cd9 ct9 oc10 kV10 dc10 pm10 cd10 ct10 oc11 kV11 dc11 pm11 cd11 ct11 oc12 kV12 dc12 pm12 cd12 ct12 oc13 kV13 dc13 pm13 cd13 ct13 oc14 kV14 dc14 pm14 cd14 ct14 oc15 kV15 dc15 pm15 cd15 ct15 oc16 kV16 dc16 pm16 cd16 ct16 oc17 kV17 dc17 pm17 cd17 ct17 oc18 kV18 dc18 pm18 cd18 ct18 oc19 kV19 dc19 pm19 cd19 ct19 oc20 kV20 dc20 pm20 cd20 ct20 oc21 kV21 dc21 pm21 cd21 ct21 oc22 kV22 dc22 pm22 cd22 ct22 oc23 kV23 dc23 pm23 cd23 ct23 oc24 kV24 dc24 pm24 cd24 ct24 oc25 kV25 dc25 pm25 cd25 ct25 oc26 kV26 dc26 pm26 cd26 ct26 oc27 kV27 dc27 pm27 cd27 ct27 oc28 kV28 dc28 pm28 cd28 ct28 oc29 kV29 dc29 pm29 cd29 ct29 oc30 kV30 dc30 pm30 cd30 ct30 oc31 kV31 dc31 pm31 cd31 ct31 oc32 kV32 dc32 pm32 cd32 ct32 oc33 kV33 dc33 pm33 cd33 ct33 oc34 kV34 dc34 pm34 cd34 ct34 oc35 kV35 dc35 pm35 cd35 ct35 oc36 kV36 dc36 pm36 cd36 ct36 oc37 kV37 dc37 pm37 cd37 ct37 oc38 kV38 dc38 pm38 cd38 ct38 oc39 kV39 dc39 pm39 cd39 ct39 oc40 kV40 dc40 pm40 cd40 ct40 oc41 kV41 dc41 pm41 cd41 ct41 oc42 kV42 dc42 pm42 cd42 ct42 oc43 kV43 dc43 pm43 cd43 ct43 oc44 kV44 dc44 pm44 cd44 ct44 oc45 kV45 dc45 pm45 cd45 ct45 oc46 kV46 dc46 pm46 cd46 ct46 oc47 kV47 dc47 pm47 cd47 ct47 : Value} {T20 : Addr} {cT20 : Value} {dT20 : Option Addr} {nT20 : Nat} {sT20 : Array (Option Value)} {tk_MOST_ROOM tk_MOST_FLOW tk_MOST_SPAN tk_MOST_MOMENT tk_MOST_COST tk_MOST_LETTERS tk_LETTERS tk_MOST_BOUNDS_gate tk_FIGURES tk_MOST_FIGURES tk_MOST_BOUNDS_rows : Tok}
    (n_GateError : PySem.W.nsIn K mainGlobals "GateError" = some (some (.ref aCGE)))
    (n_NoBound : PySem.W.nsIn K mainGlobals "NoBound" = some (some (.ref aCNB)))
    (n_NoMoment : PySem.W.nsIn K mainGlobals "NoMoment" = some (some (.ref aCNM)))
    (n_NoCost : PySem.W.nsIn K mainGlobals "NoCost" = some (some (.ref aCNC)))
    (n_NoName : PySem.W.nsIn K mainGlobals "NoName" = some (some (.ref aCNN)))
    (n_Late : PySem.W.nsIn K mainGlobals "Late" = some (some (.ref aCLT)))
    (n_BadRow : PySem.W.nsIn K mainGlobals "BadRow" = some (some (.ref aCBR)))
    (n_JarMeter : PySem.W.nsIn K mainGlobals "JarMeter" = some (some (.ref aCJM)))
    (n_WindowMeter : PySem.W.nsIn K mainGlobals "WindowMeter" = some (some (.ref aCWM)))
    (n_Jar : PySem.W.nsIn K mainGlobals "Jar" = some (some (.ref aCJ)))
    (n_Window : PySem.W.nsIn K mainGlobals "Window" = some (some (.ref aCW)))
    (n_Gate : PySem.W.nsIn K mainGlobals "Gate" = some (some (.ref aCG)))
    (n_Turns : PySem.W.nsIn K mainGlobals "Turns" = some (some (.ref aCTU)))
    (a0_JarMeter : PySem.W.findIn K (.ref aCJM) "kept" = some (some (.ref f0)))
    (i0 : PySem.W.isFn K (.ref f0) = true)
    (l0 : K.lookup f0 = some ⟨oc0, od0, .func (PySem.W.fnOf "kept" "Meter.kept" (defArgs s_Meter_kept) (defBody s_Meter_kept) (defScope s_Meter_kept) .none kV0 dc0 pm0 an0 cd0 ct0), sl0⟩)
    (c0 : PySem.W.codeIn K cd0 "Meter.kept" = true)
    (k0 : PySem.W.keepIn K (.ref f0) = true)
    (a1_JarMeter : PySem.W.findIn K (.ref aCJM) "__init__" = some (some (.ref f1)))
    (i1 : PySem.W.isFn K (.ref f1) = true)
    (l1 : K.lookup f1 = some ⟨oc1, od1, .func (PySem.W.fnOf "__init__" "JarMeter.__init__" (defArgs s_JarMeter_init) (defBody s_JarMeter_init) (defScope s_JarMeter_init) .none kV1 dc1 pm1 an1 cd1 ct1), sl1⟩)
    (c1 : PySem.W.codeIn K cd1 "JarMeter.__init__" = true)
    (k1 : PySem.W.keepIn K (.ref f1) = true)
    (a2_JarMeter : PySem.W.findIn K (.ref aCJM) "level_at" = some (some (.ref f2)))
    (i2 : PySem.W.isFn K (.ref f2) = true)
    (l2 : K.lookup f2 = some ⟨oc2, od2, .func (PySem.W.fnOf "level_at" "JarMeter.level_at" (defArgs s_JarMeter_level_at) (defBody s_JarMeter_level_at) (defScope s_JarMeter_level_at) .none kV2 dc2 pm2 an2 cd2 ct2), sl2⟩)
    (c2 : PySem.W.codeIn K cd2 "JarMeter.level_at" = true)
    (k2 : PySem.W.keepIn K (.ref f2) = true)
    (a3_JarMeter : PySem.W.findIn K (.ref aCJM) "wait" = some (some (.ref f3)))
    (i3 : PySem.W.isFn K (.ref f3) = true)
    (l3 : K.lookup f3 = some ⟨oc3, od3, .func (PySem.W.fnOf "wait" "JarMeter.wait" (defArgs s_JarMeter_wait) (defBody s_JarMeter_wait) (defScope s_JarMeter_wait) .none kV3 dc3 pm3 an3 cd3 ct3), sl3⟩)
    (c3 : PySem.W.codeIn K cd3 "JarMeter.wait" = true)
    (k3 : PySem.W.keepIn K (.ref f3) = true)
    (a4_JarMeter : PySem.W.findIn K (.ref aCJM) "take" = some (some (.ref f4)))
    (i4 : PySem.W.isFn K (.ref f4) = true)
    (l4 : K.lookup f4 = some ⟨oc4, od4, .func (PySem.W.fnOf "take" "JarMeter.take" (defArgs s_JarMeter_take) (defBody s_JarMeter_take) (defScope s_JarMeter_take) .none kV4 dc4 pm4 an4 cd4 ct4), sl4⟩)
    (c4 : PySem.W.codeIn K cd4 "JarMeter.take" = true)
    (k4 : PySem.W.keepIn K (.ref f4) = true)
    (a5_WindowMeter : PySem.W.findIn K (.ref aCWM) "__init__" = some (some (.ref f5)))
    (i5 : PySem.W.isFn K (.ref f5) = true)
    (l5 : K.lookup f5 = some ⟨oc5, od5, .func (PySem.W.fnOf "__init__" "WindowMeter.__init__" (defArgs s_WindowMeter_init) (defBody s_WindowMeter_init) (defScope s_WindowMeter_init) .none kV5 dc5 pm5 an5 cd5 ct5), sl5⟩)
    (c5 : PySem.W.codeIn K cd5 "WindowMeter.__init__" = true)
    (k5 : PySem.W.keepIn K (.ref f5) = true)
    (a6_WindowMeter : PySem.W.findIn K (.ref aCWM) "wait" = some (some (.ref f6)))
    (i6 : PySem.W.isFn K (.ref f6) = true)
    (l6 : K.lookup f6 = some ⟨oc6, od6, .func (PySem.W.fnOf "wait" "WindowMeter.wait" (defArgs s_WindowMeter_wait) (defBody s_WindowMeter_wait) (defScope s_WindowMeter_wait) .none kV6 dc6 pm6 an6 cd6 ct6), sl6⟩)
    (c6 : PySem.W.codeIn K cd6 "WindowMeter.wait" = true)
    (k6 : PySem.W.keepIn K (.ref f6) = true)
    (a7_WindowMeter : PySem.W.findIn K (.ref aCWM) "take" = some (some (.ref f7)))
    (i7 : PySem.W.isFn K (.ref f7) = true)
    (l7 : K.lookup f7 = some ⟨oc7, od7, .func (PySem.W.fnOf "take" "WindowMeter.take" (defArgs s_WindowMeter_take) (defBody s_WindowMeter_take) (defScope s_WindowMeter_take) .none kV7 dc7 pm7 an7 cd7 ct7), sl7⟩)
    (c7 : PySem.W.codeIn K cd7 "WindowMeter.take" = true)
    (k7 : PySem.W.keepIn K (.ref f7) = true)
    (a8_WindowMeter : PySem.W.findIn K (.ref aCWM) "kept" = some (some (.ref f8)))
    (i8 : PySem.W.isFn K (.ref f8) = true)
    (l8 : K.lookup f8 = some ⟨oc8, od8, .func (PySem.W.fnOf "kept" "WindowMeter.kept" (defArgs s_WindowMeter_kept) (defBody s_WindowMeter_kept) (defScope s_WindowMeter_kept) .none kV8 dc8 pm8 an8 cd8 ct8), sl8⟩)
    (c8 : PySem.W.codeIn K cd8 "WindowMeter.kept" = true)
    (k8 : PySem.W.keepIn K (.ref f8) = true)
    (a9 : PySem.W.nsIn K mainGlobals "need_number" = some (some (.ref f9)))
    (l9 : K.lookup f9 = some ⟨oc9, od9, .func (PySem.W.fnOf "need_number" "need_number" (defArgs s_need_number) (defBody s_need_number) (defScope s_need_number) .none kV9 dc9 pm9 an9 cd9 ct9), sl9⟩)
    (c9 : PySem.W.codeIn K cd9 "need_number" = true)
    (k9 : PySem.W.keepIn K (.ref f9) = true)
    (a10_Jar : PySem.W.findIn K (.ref aCJ) "__init__" = some (some (.ref f10)))
    (i10 : PySem.W.isFn K (.ref f10) = true)
    (l10 : K.lookup f10 = some ⟨oc10, od10, .func (PySem.W.fnOf "__init__" "Jar.__init__" (defArgs s_Jar_init) (defBody s_Jar_init) (defScope s_Jar_init) .none kV10 dc10 pm10 an10 cd10 ct10), sl10⟩)
    (c10 : PySem.W.codeIn K cd10 "Jar.__init__" = true)
    (k10 : PySem.W.keepIn K (.ref f10) = true)
    (a11_Jar : PySem.W.findIn K (.ref aCJ) "meter" = some (some (.ref f11)))
    (i11 : PySem.W.isFn K (.ref f11) = true)
    (l11 : K.lookup f11 = some ⟨oc11, od11, .func (PySem.W.fnOf "meter" "Jar.meter" (defArgs s_Jar_meter) (defBody s_Jar_meter) (defScope s_Jar_meter) .none kV11 dc11 pm11 an11 cd11 ct11), sl11⟩)
    (c11 : PySem.W.codeIn K cd11 "Jar.meter" = true)
    (k11 : PySem.W.keepIn K (.ref f11) = true)
    (a12_Window : PySem.W.findIn K (.ref aCW) "__init__" = some (some (.ref f12)))
    (i12 : PySem.W.isFn K (.ref f12) = true)
    (l12 : K.lookup f12 = some ⟨oc12, od12, .func (PySem.W.fnOf "__init__" "Window.__init__" (defArgs s_Window_init) (defBody s_Window_init) (defScope s_Window_init) .none kV12 dc12 pm12 an12 cd12 ct12), sl12⟩)
    (c12 : PySem.W.codeIn K cd12 "Window.__init__" = true)
    (k12 : PySem.W.keepIn K (.ref f12) = true)
    (a13_Window : PySem.W.findIn K (.ref aCW) "meter" = some (some (.ref f13)))
    (i13 : PySem.W.isFn K (.ref f13) = true)
    (l13 : K.lookup f13 = some ⟨oc13, od13, .func (PySem.W.fnOf "meter" "Window.meter" (defArgs s_Window_meter) (defBody s_Window_meter) (defScope s_Window_meter) .none kV13 dc13 pm13 an13 cd13 ct13), sl13⟩)
    (c13 : PySem.W.codeIn K cd13 "Window.meter" = true)
    (k13 : PySem.W.keepIn K (.ref f13) = true)
    (a14 : PySem.W.nsIn K mainGlobals "need_bounds" = some (some (.ref f14)))
    (l14 : K.lookup f14 = some ⟨oc14, od14, .func (PySem.W.fnOf "need_bounds" "need_bounds" (defArgs s_need_bounds) (defBody s_need_bounds) (defScope s_need_bounds) .none kV14 dc14 pm14 an14 cd14 ct14), sl14⟩)
    (c14 : PySem.W.codeIn K cd14 "need_bounds" = true)
    (k14 : PySem.W.keepIn K (.ref f14) = true)
    (a15 : PySem.W.nsIn K mainGlobals "is_whole" = some (some (.ref f15)))
    (l15 : K.lookup f15 = some ⟨oc15, od15, .func (PySem.W.fnOf "is_whole" "is_whole" (defArgs s_is_whole) (defBody s_is_whole) (defScope s_is_whole) .none kV15 dc15 pm15 an15 cd15 ct15), sl15⟩)
    (c15 : PySem.W.codeIn K cd15 "is_whole" = true)
    (k15 : PySem.W.keepIn K (.ref f15) = true)
    (a16 : PySem.W.nsIn K mainGlobals "need_moment" = some (some (.ref f16)))
    (l16 : K.lookup f16 = some ⟨oc16, od16, .func (PySem.W.fnOf "need_moment" "need_moment" (defArgs s_need_moment) (defBody s_need_moment) (defScope s_need_moment) .none kV16 dc16 pm16 an16 cd16 ct16), sl16⟩)
    (c16 : PySem.W.codeIn K cd16 "need_moment" = true)
    (k16 : PySem.W.keepIn K (.ref f16) = true)
    (a17 : PySem.W.nsIn K mainGlobals "need_cost" = some (some (.ref f17)))
    (l17 : K.lookup f17 = some ⟨oc17, od17, .func (PySem.W.fnOf "need_cost" "need_cost" (defArgs s_need_cost) (defBody s_need_cost) (defScope s_need_cost) .none kV17 dc17 pm17 an17 cd17 ct17), sl17⟩)
    (c17 : PySem.W.codeIn K cd17 "need_cost" = true)
    (k17 : PySem.W.keepIn K (.ref f17) = true)
    (a18 : PySem.W.nsIn K mainGlobals "need_name" = some (some (.ref f18)))
    (l18 : K.lookup f18 = some ⟨oc18, od18, .func (PySem.W.fnOf "need_name" "need_name" (defArgs s_need_name) (defBody s_need_name) (defScope s_need_name) .none kV18 dc18 pm18 an18 cd18 ct18), sl18⟩)
    (c18 : PySem.W.codeIn K cd18 "need_name" = true)
    (k18 : PySem.W.keepIn K (.ref f18) = true)
    (a19 : PySem.W.nsIn K mainGlobals "meters_of" = some (some (.ref f19)))
    (l19 : K.lookup f19 = some ⟨oc19, od19, .func (PySem.W.fnOf "meters_of" "meters_of" (defArgs s_meters_of) (defBody s_meters_of) (defScope s_meters_of) .none kV19 dc19 pm19 an19 cd19 ct19), sl19⟩)
    (c19 : PySem.W.codeIn K cd19 "meters_of" = true)
    (k19 : PySem.W.keepIn K (.ref f19) = true)
    (a20_Gate : PySem.W.findIn K (.ref aCG) "__init__" = some (some (.ref f20)))
    (i20 : PySem.W.isFn K (.ref f20) = true)
    (l20 : K.lookup f20 = some ⟨oc20, od20, .func (PySem.W.fnOf "__init__" "Gate.__init__" (defArgs s_Gate_init) (defBody s_Gate_init) (defScope s_Gate_init) (.ref T20) kV20 dc20 pm20 an20 cd20 ct20), sl20⟩)
    (lT20 : K.lookup T20 = some ⟨cT20, dT20, .seq #[.none] nT20, sT20⟩)
    (c20 : PySem.W.codeIn K cd20 "Gate.__init__" = true)
    (k20 : PySem.W.keepIn K (.ref f20) = true)
    (a21_Gate : PySem.W.findIn K (.ref aCG) "meters_for" = some (some (.ref f21)))
    (i21 : PySem.W.isFn K (.ref f21) = true)
    (l21 : K.lookup f21 = some ⟨oc21, od21, .func (PySem.W.fnOf "meters_for" "Gate.meters_for" (defArgs s_Gate_meters_for) (defBody s_Gate_meters_for) (defScope s_Gate_meters_for) .none kV21 dc21 pm21 an21 cd21 ct21), sl21⟩)
    (c21 : PySem.W.codeIn K cd21 "Gate.meters_for" = true)
    (k21 : PySem.W.keepIn K (.ref f21) = true)
    (a22_Gate : PySem.W.findIn K (.ref aCG) "ask" = some (some (.ref f22)))
    (i22 : PySem.W.isFn K (.ref f22) = true)
    (l22 : K.lookup f22 = some ⟨oc22, od22, .func (PySem.W.fnOf "ask" "Gate.ask" (defArgs s_Gate_ask) (defBody s_Gate_ask) (defScope s_Gate_ask) .none kV22 dc22 pm22 an22 cd22 ct22), sl22⟩)
    (c22 : PySem.W.codeIn K cd22 "Gate.ask" = true)
    (k22 : PySem.W.keepIn K (.ref f22) = true)
    (a23_Gate : PySem.W.findIn K (.ref aCG) "visit" = some (some (.ref f23)))
    (i23 : PySem.W.isFn K (.ref f23) = true)
    (l23 : K.lookup f23 = some ⟨oc23, od23, .func (PySem.W.fnOf "visit" "Gate.visit" (defArgs s_Gate_visit) (defBody s_Gate_visit) (defScope s_Gate_visit) .none kV23 dc23 pm23 an23 cd23 ct23), sl23⟩)
    (c23 : PySem.W.codeIn K cd23 "Gate.visit" = true)
    (k23 : PySem.W.keepIn K (.ref f23) = true)
    (a24_Gate : PySem.W.findIn K (.ref aCG) "names" = some (some (.ref f24)))
    (i24 : PySem.W.isFn K (.ref f24) = true)
    (l24 : K.lookup f24 = some ⟨oc24, od24, .func (PySem.W.fnOf "names" "Gate.names" (defArgs s_Gate_names) (defBody s_Gate_names) (defScope s_Gate_names) .none kV24 dc24 pm24 an24 cd24 ct24), sl24⟩)
    (c24 : PySem.W.codeIn K cd24 "Gate.names" = true)
    (k24 : PySem.W.keepIn K (.ref f24) = true)
    (a25_Gate : PySem.W.findIn K (.ref aCG) "kept" = some (some (.ref f25)))
    (i25 : PySem.W.isFn K (.ref f25) = true)
    (l25 : K.lookup f25 = some ⟨oc25, od25, .func (PySem.W.fnOf "kept" "Gate.kept" (defArgs s_Gate_kept) (defBody s_Gate_kept) (defScope s_Gate_kept) .none kV25 dc25 pm25 an25 cd25 ct25), sl25⟩)
    (c25 : PySem.W.codeIn K cd25 "Gate.kept" = true)
    (k25 : PySem.W.keepIn K (.ref f25) = true)
    (a26 : PySem.W.nsIn K mainGlobals "name_of" = some (some (.ref f26)))
    (l26 : K.lookup f26 = some ⟨oc26, od26, .func (PySem.W.fnOf "name_of" "name_of" (defArgs s_name_of) (defBody s_name_of) (defScope s_name_of) .none kV26 dc26 pm26 an26 cd26 ct26), sl26⟩)
    (c26 : PySem.W.codeIn K cd26 "name_of" = true)
    (k26 : PySem.W.keepIn K (.ref f26) = true)
    (a27 : PySem.W.nsIn K mainGlobals "number_of" = some (some (.ref f27)))
    (l27 : K.lookup f27 = some ⟨oc27, od27, .func (PySem.W.fnOf "number_of" "number_of" (defArgs s_number_of) (defBody s_number_of) (defScope s_number_of) .none kV27 dc27 pm27 an27 cd27 ct27), sl27⟩)
    (c27 : PySem.W.codeIn K cd27 "number_of" = true)
    (k27 : PySem.W.keepIn K (.ref f27) = true)
    (a28 : PySem.W.nsIn K mainGlobals "need_words" = some (some (.ref f28)))
    (l28 : K.lookup f28 = some ⟨oc28, od28, .func (PySem.W.fnOf "need_words" "need_words" (defArgs s_need_words) (defBody s_need_words) (defScope s_need_words) .none kV28 dc28 pm28 an28 cd28 ct28), sl28⟩)
    (c28 : PySem.W.codeIn K cd28 "need_words" = true)
    (k28 : PySem.W.keepIn K (.ref f28) = true)
    (a29 : PySem.W.nsIn K mainGlobals "answer_text" = some (some (.ref f29)))
    (l29 : K.lookup f29 = some ⟨oc29, od29, .func (PySem.W.fnOf "answer_text" "answer_text" (defArgs s_answer_text) (defBody s_answer_text) (defScope s_answer_text) .none kV29 dc29 pm29 an29 cd29 ct29), sl29⟩)
    (c29 : PySem.W.codeIn K cd29 "answer_text" = true)
    (k29 : PySem.W.keepIn K (.ref f29) = true)
    (a30_Turns : PySem.W.findIn K (.ref aCTU) "__init__" = some (some (.ref f30)))
    (i30 : PySem.W.isFn K (.ref f30) = true)
    (l30 : K.lookup f30 = some ⟨oc30, od30, .func (PySem.W.fnOf "__init__" "Turns.__init__" (defArgs s_Turns_init) (defBody s_Turns_init) (defScope s_Turns_init) .none kV30 dc30 pm30 an30 cd30 ct30), sl30⟩)
    (c30 : PySem.W.codeIn K cd30 "Turns.__init__" = true)
    (k30 : PySem.W.keepIn K (.ref f30) = true)
    (a31_Turns : PySem.W.findIn K (.ref aCTU) "bound_row" = some (some (.ref f31)))
    (i31 : PySem.W.isFn K (.ref f31) = true)
    (l31 : K.lookup f31 = some ⟨oc31, od31, .func (PySem.W.fnOf "bound_row" "Turns.bound_row" (defArgs s_Turns_bound_row) (defBody s_Turns_bound_row) (defScope s_Turns_bound_row) .none kV31 dc31 pm31 an31 cd31 ct31), sl31⟩)
    (c31 : PySem.W.codeIn K cd31 "Turns.bound_row" = true)
    (k31 : PySem.W.keepIn K (.ref f31) = true)
    (a32_Turns : PySem.W.findIn K (.ref aCTU) "begin" = some (some (.ref f32)))
    (i32 : PySem.W.isFn K (.ref f32) = true)
    (l32 : K.lookup f32 = some ⟨oc32, od32, .func (PySem.W.fnOf "begin" "Turns.begin" (defArgs s_Turns_begin) (defBody s_Turns_begin) (defScope s_Turns_begin) .none kV32 dc32 pm32 an32 cd32 ct32), sl32⟩)
    (c32 : PySem.W.codeIn K cd32 "Turns.begin" = true)
    (k32 : PySem.W.keepIn K (.ref f32) = true)
    (a33_Turns : PySem.W.findIn K (.ref aCTU) "visit_row" = some (some (.ref f33)))
    (i33 : PySem.W.isFn K (.ref f33) = true)
    (l33 : K.lookup f33 = some ⟨oc33, od33, .func (PySem.W.fnOf "visit_row" "Turns.visit_row" (defArgs s_Turns_visit_row) (defBody s_Turns_visit_row) (defScope s_Turns_visit_row) .none kV33 dc33 pm33 an33 cd33 ct33), sl33⟩)
    (c33 : PySem.W.codeIn K cd33 "Turns.visit_row" = true)
    (k33 : PySem.W.keepIn K (.ref f33) = true)
    (a34_Turns : PySem.W.findIn K (.ref aCTU) "answer_to" = some (some (.ref f34)))
    (i34 : PySem.W.isFn K (.ref f34) = true)
    (l34 : K.lookup f34 = some ⟨oc34, od34, .func (PySem.W.fnOf "answer_to" "Turns.answer_to" (defArgs s_Turns_answer_to) (defBody s_Turns_answer_to) (defScope s_Turns_answer_to) .none kV34 dc34 pm34 an34 cd34 ct34), sl34⟩)
    (c34 : PySem.W.codeIn K cd34 "Turns.answer_to" = true)
    (k34 : PySem.W.keepIn K (.ref f34) = true)
    (a35 : PySem.W.nsIn K mainGlobals "play" = some (some (.ref f35)))
    (l35 : K.lookup f35 = some ⟨oc35, od35, .func (PySem.W.fnOf "play" "play" (defArgs s_play) (defBody s_play) (defScope s_play) .none kV35 dc35 pm35 an35 cd35 ct35), sl35⟩)
    (c35 : PySem.W.codeIn K cd35 "play" = true)
    (k35 : PySem.W.keepIn K (.ref f35) = true)
    (a36 : PySem.W.nsIn K mainGlobals "_law_cell" = some (some (.ref f36)))
    (l36 : K.lookup f36 = some ⟨oc36, od36, .func (PySem.W.fnOf "_law_cell" "_law_cell" (defArgs s__law_cell) (defBody s__law_cell) (defScope s__law_cell) .none kV36 dc36 pm36 an36 cd36 ct36), sl36⟩)
    (c36 : PySem.W.codeIn K cd36 "_law_cell" = true)
    (k36 : PySem.W.keepIn K (.ref f36) = true)
    (a37 : PySem.W.nsIn K mainGlobals "_law_bound" = some (some (.ref f37)))
    (l37 : K.lookup f37 = some ⟨oc37, od37, .func (PySem.W.fnOf "_law_bound" "_law_bound" (defArgs s__law_bound) (defBody s__law_bound) (defScope s__law_bound) .none kV37 dc37 pm37 an37 cd37 ct37), sl37⟩)
    (c37 : PySem.W.codeIn K cd37 "_law_bound" = true)
    (k37 : PySem.W.keepIn K (.ref f37) = true)
    (a38 : PySem.W.nsIn K mainGlobals "_law_made" = some (some (.ref f38)))
    (l38 : K.lookup f38 = some ⟨oc38, od38, .func (PySem.W.fnOf "_law_made" "_law_made" (defArgs s__law_made) (defBody s__law_made) (defScope s__law_made) .none kV38 dc38 pm38 an38 cd38 ct38), sl38⟩)
    (c38 : PySem.W.codeIn K cd38 "_law_made" = true)
    (k38 : PySem.W.keepIn K (.ref f38) = true)
    (a39 : PySem.W.nsIn K mainGlobals "_law_gap" = some (some (.ref f39)))
    (l39 : K.lookup f39 = some ⟨oc39, od39, .func (PySem.W.fnOf "_law_gap" "_law_gap" (defArgs s__law_gap) (defBody s__law_gap) (defScope s__law_gap) .none kV39 dc39 pm39 an39 cd39 ct39), sl39⟩)
    (c39 : PySem.W.codeIn K cd39 "_law_gap" = true)
    (k39 : PySem.W.keepIn K (.ref f39) = true)
    (a40 : PySem.W.nsIn K mainGlobals "_law_cost" = some (some (.ref f40)))
    (l40 : K.lookup f40 = some ⟨oc40, od40, .func (PySem.W.fnOf "_law_cost" "_law_cost" (defArgs s__law_cost) (defBody s__law_cost) (defScope s__law_cost) .none kV40 dc40 pm40 an40 cd40 ct40), sl40⟩)
    (c40 : PySem.W.codeIn K cd40 "_law_cost" = true)
    (k40 : PySem.W.keepIn K (.ref f40) = true)
    (a41 : PySem.W.nsIn K mainGlobals "_law_scale" = some (some (.ref f41)))
    (l41 : K.lookup f41 = some ⟨oc41, od41, .func (PySem.W.fnOf "_law_scale" "_law_scale" (defArgs s__law_scale) (defBody s__law_scale) (defScope s__law_scale) .none kV41 dc41 pm41 an41 cd41 ct41), sl41⟩)
    (c41 : PySem.W.codeIn K cd41 "_law_scale" = true)
    (k41 : PySem.W.keepIn K (.ref f41) = true)
    (a42 : PySem.W.nsIn K mainGlobals "_law_kind" = some (some (.ref f42)))
    (l42 : K.lookup f42 = some ⟨oc42, od42, .func (PySem.W.fnOf "_law_kind" "_law_kind" (defArgs s__law_kind) (defBody s__law_kind) (defScope s__law_kind) .none kV42 dc42 pm42 an42 cd42 ct42), sl42⟩)
    (c42 : PySem.W.codeIn K cd42 "_law_kind" = true)
    (k42 : PySem.W.keepIn K (.ref f42) = true)
    (a43 : PySem.W.nsIn K mainGlobals "_law_text" = some (some (.ref f43)))
    (l43 : K.lookup f43 = some ⟨oc43, od43, .func (PySem.W.fnOf "_law_text" "_law_text" (defArgs s__law_text) (defBody s__law_text) (defScope s__law_text) .none kV43 dc43 pm43 an43 cd43 ct43), sl43⟩)
    (c43 : PySem.W.codeIn K cd43 "_law_text" = true)
    (k43 : PySem.W.keepIn K (.ref f43) = true)
    (a44 : PySem.W.nsIn K mainGlobals "_law_answer" = some (some (.ref f44)))
    (l44 : K.lookup f44 = some ⟨oc44, od44, .func (PySem.W.fnOf "_law_answer" "_law_answer" (defArgs s__law_answer) (defBody s__law_answer) (defScope s__law_answer) .none kV44 dc44 pm44 an44 cd44 ct44), sl44⟩)
    (c44 : PySem.W.codeIn K cd44 "_law_answer" = true)
    (k44 : PySem.W.keepIn K (.ref f44) = true)
    (a45 : PySem.W.nsIn K mainGlobals "_law_spread" = some (some (.ref f45)))
    (l45 : K.lookup f45 = some ⟨oc45, od45, .func (PySem.W.fnOf "_law_spread" "_law_spread" (defArgs s__law_spread) (defBody s__law_spread) (defScope s__law_spread) .none kV45 dc45 pm45 an45 cd45 ct45), sl45⟩)
    (c45 : PySem.W.codeIn K cd45 "_law_spread" = true)
    (k45 : PySem.W.keepIn K (.ref f45) = true)
    (a46 : PySem.W.nsIn K mainGlobals "_law_row" = some (some (.ref f46)))
    (l46 : K.lookup f46 = some ⟨oc46, od46, .func (PySem.W.fnOf "_law_row" "_law_row" (defArgs s__law_row) (defBody s__law_row) (defScope s__law_row) .none kV46 dc46 pm46 an46 cd46 ct46), sl46⟩)
    (c46 : PySem.W.codeIn K cd46 "_law_row" = true)
    (k46 : PySem.W.keepIn K (.ref f46) = true)
    (a47 : PySem.W.nsIn K mainGlobals "law" = some (some (.ref f47)))
    (l47 : K.lookup f47 = some ⟨oc47, od47, .func (PySem.W.fnOf "law" "law" (defArgs s_law) (defBody s_law) (defScope s_law) .none kV47 dc47 pm47 an47 cd47 ct47), sl47⟩)
    (c47 : PySem.W.codeIn K cd47 "law" = true)
    (k47 : PySem.W.keepIn K (.ref f47) = true)
    (mk_JarMeter : PySem.W.makesIn K aCJM = true)
    (kc_JarMeter : PySem.W.keepIn K (.ref aCJM) = true)
    (mk_WindowMeter : PySem.W.makesIn K aCWM = true)
    (kc_WindowMeter : PySem.W.keepIn K (.ref aCWM) = true)
    (mk_Jar : PySem.W.makesIn K aCJ = true)
    (kc_Jar : PySem.W.keepIn K (.ref aCJ) = true)
    (mk_Window : PySem.W.makesIn K aCW = true)
    (kc_Window : PySem.W.keepIn K (.ref aCW) = true)
    (mk_Gate : PySem.W.makesIn K aCG = true)
    (kc_Gate : PySem.W.keepIn K (.ref aCG) = true)
    (mk_Turns : PySem.W.makesIn K aCTU = true)
    (kc_Turns : PySem.W.keepIn K (.ref aCTU) = true)
    (pg_JarMeter : PySem.W.plainGet K aCJM Str.empty = true)
    (hd_JarMeter : PySem.W.hasDictIn K aCJM = true)
    (po_JarMeter : PySem.W.plainOver K aCJM = true)
    (sa_JarMeter : PySem.W.findIn K (.ref aCJM) "__setattr__" = some (some (.builtin "object.__setattr__")))
    (na_JarMeter_most : PySem.W.findIn K (.ref aCJM) "most" = some none)
    (na_JarMeter_flow : PySem.W.findIn K (.ref aCJM) "flow" = some none)
    (na_JarMeter_level : PySem.W.findIn K (.ref aCJM) "level" = some none)
    (na_JarMeter_last : PySem.W.findIn K (.ref aCJM) "last" = some none)
    (pg_WindowMeter : PySem.W.plainGet K aCWM Str.empty = true)
    (hd_WindowMeter : PySem.W.hasDictIn K aCWM = true)
    (po_WindowMeter : PySem.W.plainOver K aCWM = true)
    (sa_WindowMeter : PySem.W.findIn K (.ref aCWM) "__setattr__" = some (some (.builtin "object.__setattr__")))
    (na_WindowMeter_most : PySem.W.findIn K (.ref aCWM) "most" = some none)
    (na_WindowMeter_span : PySem.W.findIn K (.ref aCWM) "span" = some none)
    (na_WindowMeter_rows : PySem.W.findIn K (.ref aCWM) "rows" = some none)
    (pg_Jar : PySem.W.plainGet K aCJ Str.empty = true)
    (hd_Jar : PySem.W.hasDictIn K aCJ = true)
    (po_Jar : PySem.W.plainOver K aCJ = true)
    (sa_Jar : PySem.W.findIn K (.ref aCJ) "__setattr__" = some (some (.builtin "object.__setattr__")))
    (na_Jar_size : PySem.W.findIn K (.ref aCJ) "size" = some none)
    (na_Jar_flow : PySem.W.findIn K (.ref aCJ) "flow" = some none)
    (pg_Window : PySem.W.plainGet K aCW Str.empty = true)
    (hd_Window : PySem.W.hasDictIn K aCW = true)
    (po_Window : PySem.W.plainOver K aCW = true)
    (sa_Window : PySem.W.findIn K (.ref aCW) "__setattr__" = some (some (.builtin "object.__setattr__")))
    (na_Window_most : PySem.W.findIn K (.ref aCW) "most" = some none)
    (na_Window_span : PySem.W.findIn K (.ref aCW) "span" = some none)
    (pg_Gate : PySem.W.plainGet K aCG Str.empty = true)
    (hd_Gate : PySem.W.hasDictIn K aCG = true)
    (po_Gate : PySem.W.plainOver K aCG = true)
    (sa_Gate : PySem.W.findIn K (.ref aCG) "__setattr__" = some (some (.builtin "object.__setattr__")))
    (na_Gate_own : PySem.W.findIn K (.ref aCG) "own" = some none)
    (na_Gate_common : PySem.W.findIn K (.ref aCG) "common" = some none)
    (na_Gate_people : PySem.W.findIn K (.ref aCG) "people" = some none)
    (na_Gate_latest : PySem.W.findIn K (.ref aCG) "latest" = some none)
    (pg_Turns : PySem.W.plainGet K aCTU Str.empty = true)
    (hd_Turns : PySem.W.hasDictIn K aCTU = true)
    (po_Turns : PySem.W.plainOver K aCTU = true)
    (sa_Turns : PySem.W.findIn K (.ref aCTU) "__setattr__" = some (some (.builtin "object.__setattr__")))
    (na_Turns_limits : PySem.W.findIn K (.ref aCTU) "limits" = some none)
    (na_Turns_gate : PySem.W.findIn K (.ref aCTU) "gate" = some none)
    (ic_Jar : PySem.W.findIn K (.ref aCJ) "__class__" = some (some (.builtin "object.__class__")))
    (im_Jar : PySem.W.mroIn K aCJ (.type "object") = some true)
    (ic_Window : PySem.W.findIn K (.ref aCW) "__class__" = some (some (.builtin "object.__class__")))
    (im_Window : PySem.W.mroIn K aCW (.type "object") = some true)
    (isn : PySem.W.specialIn K (.builtin "object.__class__") "__get__" = some (some (.builtin "getset_descriptor.__get__")))
    (ist : PySem.W.takesIn K (.builtin "object.__class__") = some true)
    (xq_GateError : PySem.W.excIn K aCGE [.type "ValueError", .type "Exception", .type "BaseException", .type "object"] "ValueError.__new__" = true)
    (xk_GateError : PySem.W.keepIn K (.ref aCGE) = true)
    (xb_GateError : PySem.W.subIn K (.ref aCGE) (.type "BaseException") = some true)
    (xt_GateError : PySem.W.typeIn K (.ref aCGE) = some (.type "type"))
    (eg_GateError : PySem.W.findIn K (.ref aCGE) "__getattribute__" = some (some (.builtin "BaseException.__getattribute__")))
    (ek_GateError : PySem.W.findIn K (.ref aCGE) "__getattr__" = some none)
    (ed_GateError : PySem.W.hasDictIn K aCGE = true)
    (ea_GateError : PySem.W.findIn K (.ref aCGE) "__class__" = some (some (.builtin "object.__class__")))
    (em_GateError : PySem.W.mroIn K aCGE (.type "object") = some true)
    (xq_NoBound : PySem.W.excIn K aCNB [.type "ValueError", .type "Exception", .type "BaseException", .type "object"] "ValueError.__new__" = true)
    (xk_NoBound : PySem.W.keepIn K (.ref aCNB) = true)
    (xb_NoBound : PySem.W.subIn K (.ref aCNB) (.type "BaseException") = some true)
    (xt_NoBound : PySem.W.typeIn K (.ref aCNB) = some (.type "type"))
    (eg_NoBound : PySem.W.findIn K (.ref aCNB) "__getattribute__" = some (some (.builtin "BaseException.__getattribute__")))
    (ek_NoBound : PySem.W.findIn K (.ref aCNB) "__getattr__" = some none)
    (ed_NoBound : PySem.W.hasDictIn K aCNB = true)
    (ea_NoBound : PySem.W.findIn K (.ref aCNB) "__class__" = some (some (.builtin "object.__class__")))
    (em_NoBound : PySem.W.mroIn K aCNB (.type "object") = some true)
    (xq_NoMoment : PySem.W.excIn K aCNM [.type "ValueError", .type "Exception", .type "BaseException", .type "object"] "ValueError.__new__" = true)
    (xk_NoMoment : PySem.W.keepIn K (.ref aCNM) = true)
    (xb_NoMoment : PySem.W.subIn K (.ref aCNM) (.type "BaseException") = some true)
    (xt_NoMoment : PySem.W.typeIn K (.ref aCNM) = some (.type "type"))
    (eg_NoMoment : PySem.W.findIn K (.ref aCNM) "__getattribute__" = some (some (.builtin "BaseException.__getattribute__")))
    (ek_NoMoment : PySem.W.findIn K (.ref aCNM) "__getattr__" = some none)
    (ed_NoMoment : PySem.W.hasDictIn K aCNM = true)
    (ea_NoMoment : PySem.W.findIn K (.ref aCNM) "__class__" = some (some (.builtin "object.__class__")))
    (em_NoMoment : PySem.W.mroIn K aCNM (.type "object") = some true)
    (xq_NoCost : PySem.W.excIn K aCNC [.type "ValueError", .type "Exception", .type "BaseException", .type "object"] "ValueError.__new__" = true)
    (xk_NoCost : PySem.W.keepIn K (.ref aCNC) = true)
    (xb_NoCost : PySem.W.subIn K (.ref aCNC) (.type "BaseException") = some true)
    (xt_NoCost : PySem.W.typeIn K (.ref aCNC) = some (.type "type"))
    (eg_NoCost : PySem.W.findIn K (.ref aCNC) "__getattribute__" = some (some (.builtin "BaseException.__getattribute__")))
    (ek_NoCost : PySem.W.findIn K (.ref aCNC) "__getattr__" = some none)
    (ed_NoCost : PySem.W.hasDictIn K aCNC = true)
    (ea_NoCost : PySem.W.findIn K (.ref aCNC) "__class__" = some (some (.builtin "object.__class__")))
    (em_NoCost : PySem.W.mroIn K aCNC (.type "object") = some true)
    (xq_NoName : PySem.W.excIn K aCNN [.type "ValueError", .type "Exception", .type "BaseException", .type "object"] "ValueError.__new__" = true)
    (xk_NoName : PySem.W.keepIn K (.ref aCNN) = true)
    (xb_NoName : PySem.W.subIn K (.ref aCNN) (.type "BaseException") = some true)
    (xt_NoName : PySem.W.typeIn K (.ref aCNN) = some (.type "type"))
    (eg_NoName : PySem.W.findIn K (.ref aCNN) "__getattribute__" = some (some (.builtin "BaseException.__getattribute__")))
    (ek_NoName : PySem.W.findIn K (.ref aCNN) "__getattr__" = some none)
    (ed_NoName : PySem.W.hasDictIn K aCNN = true)
    (ea_NoName : PySem.W.findIn K (.ref aCNN) "__class__" = some (some (.builtin "object.__class__")))
    (em_NoName : PySem.W.mroIn K aCNN (.type "object") = some true)
    (xq_Late : PySem.W.excIn K aCLT [.type "ValueError", .type "Exception", .type "BaseException", .type "object"] "ValueError.__new__" = true)
    (xk_Late : PySem.W.keepIn K (.ref aCLT) = true)
    (xb_Late : PySem.W.subIn K (.ref aCLT) (.type "BaseException") = some true)
    (xt_Late : PySem.W.typeIn K (.ref aCLT) = some (.type "type"))
    (eg_Late : PySem.W.findIn K (.ref aCLT) "__getattribute__" = some (some (.builtin "BaseException.__getattribute__")))
    (ek_Late : PySem.W.findIn K (.ref aCLT) "__getattr__" = some none)
    (ed_Late : PySem.W.hasDictIn K aCLT = true)
    (ea_Late : PySem.W.findIn K (.ref aCLT) "__class__" = some (some (.builtin "object.__class__")))
    (em_Late : PySem.W.mroIn K aCLT (.type "object") = some true)
    (xq_BadRow : PySem.W.excIn K aCBR [.type "ValueError", .type "Exception", .type "BaseException", .type "object"] "ValueError.__new__" = true)
    (xk_BadRow : PySem.W.keepIn K (.ref aCBR) = true)
    (xb_BadRow : PySem.W.subIn K (.ref aCBR) (.type "BaseException") = some true)
    (xt_BadRow : PySem.W.typeIn K (.ref aCBR) = some (.type "type"))
    (eg_BadRow : PySem.W.findIn K (.ref aCBR) "__getattribute__" = some (some (.builtin "BaseException.__getattribute__")))
    (ek_BadRow : PySem.W.findIn K (.ref aCBR) "__getattr__" = some none)
    (ed_BadRow : PySem.W.hasDictIn K aCBR = true)
    (ea_BadRow : PySem.W.findIn K (.ref aCBR) "__class__" = some (some (.builtin "object.__class__")))
    (em_BadRow : PySem.W.mroIn K aCBR (.type "object") = some true)
    (sub_NoBound_GateError : PySem.W.subIn K (.ref aCNB) (.ref aCGE) = some true)
    (sub_NoMoment_GateError : PySem.W.subIn K (.ref aCNM) (.ref aCGE) = some true)
    (sub_NoCost_GateError : PySem.W.subIn K (.ref aCNC) (.ref aCGE) = some true)
    (sub_NoName_GateError : PySem.W.subIn K (.ref aCNN) (.ref aCGE) = some true)
    (sub_Late_GateError : PySem.W.subIn K (.ref aCLT) (.ref aCGE) = some true)
    (sub_BadRow_GateError : PySem.W.subIn K (.ref aCBR) (.ref aCGE) = some true)
    (kit_Jar_Jar : PySem.W.kitOne K (.ref aCJ) (.ref aCJ) = some true)
    (kit_Window_Jar : PySem.W.kitOne K (.ref aCW) (.ref aCJ) = some false)
    (kit_Window_Window : PySem.W.kitOne K (.ref aCW) (.ref aCW) = some true)
    (kit_NoneType_Jar : PySem.W.kitOne K (.type "NoneType") (.ref aCJ) = some false)
    (kit_NoneType_Window : PySem.W.kitOne K (.type "NoneType") (.ref aCW) = some false)
    (kit_int_Jar : PySem.W.kitOne K (.type "int") (.ref aCJ) = some false)
    (kit_int_Window : PySem.W.kitOne K (.type "int") (.ref aCW) = some false)
    (kit_bool_Jar : PySem.W.kitOne K (.type "bool") (.ref aCJ) = some false)
    (kit_bool_Window : PySem.W.kitOne K (.type "bool") (.ref aCW) = some false)
    (kit_str_Jar : PySem.W.kitOne K (.type "str") (.ref aCJ) = some false)
    (kit_str_Window : PySem.W.kitOne K (.type "str") (.ref aCW) = some false)
    (kit_list_Jar : PySem.W.kitOne K (.type "list") (.ref aCJ) = some false)
    (kit_list_Window : PySem.W.kitOne K (.type "list") (.ref aCW) = some false)
    (kit_tuple_Jar : PySem.W.kitOne K (.type "tuple") (.ref aCJ) = some false)
    (kit_tuple_Window : PySem.W.kitOne K (.type "tuple") (.ref aCW) = some false)
    (kit_NoBound_NoBound : PySem.W.kitOne K (.ref aCNB) (.ref aCNB) = some true)
    (kit_NoBound_NoMoment : PySem.W.kitOne K (.ref aCNB) (.ref aCNM) = some false)
    (kit_NoBound_NoCost : PySem.W.kitOne K (.ref aCNB) (.ref aCNC) = some false)
    (kit_NoBound_NoName : PySem.W.kitOne K (.ref aCNB) (.ref aCNN) = some false)
    (kit_NoBound_Late : PySem.W.kitOne K (.ref aCNB) (.ref aCLT) = some false)
    (kit_NoBound_BadRow : PySem.W.kitOne K (.ref aCNB) (.ref aCBR) = some false)
    (kit_NoMoment_NoBound : PySem.W.kitOne K (.ref aCNM) (.ref aCNB) = some false)
    (kit_NoMoment_NoMoment : PySem.W.kitOne K (.ref aCNM) (.ref aCNM) = some true)
    (kit_NoMoment_NoCost : PySem.W.kitOne K (.ref aCNM) (.ref aCNC) = some false)
    (kit_NoMoment_NoName : PySem.W.kitOne K (.ref aCNM) (.ref aCNN) = some false)
    (kit_NoMoment_Late : PySem.W.kitOne K (.ref aCNM) (.ref aCLT) = some false)
    (kit_NoMoment_BadRow : PySem.W.kitOne K (.ref aCNM) (.ref aCBR) = some false)
    (kit_NoCost_NoBound : PySem.W.kitOne K (.ref aCNC) (.ref aCNB) = some false)
    (kit_NoCost_NoMoment : PySem.W.kitOne K (.ref aCNC) (.ref aCNM) = some false)
    (kit_NoCost_NoCost : PySem.W.kitOne K (.ref aCNC) (.ref aCNC) = some true)
    (kit_NoCost_NoName : PySem.W.kitOne K (.ref aCNC) (.ref aCNN) = some false)
    (kit_NoCost_Late : PySem.W.kitOne K (.ref aCNC) (.ref aCLT) = some false)
    (kit_NoCost_BadRow : PySem.W.kitOne K (.ref aCNC) (.ref aCBR) = some false)
    (kit_NoName_NoBound : PySem.W.kitOne K (.ref aCNN) (.ref aCNB) = some false)
    (kit_NoName_NoMoment : PySem.W.kitOne K (.ref aCNN) (.ref aCNM) = some false)
    (kit_NoName_NoCost : PySem.W.kitOne K (.ref aCNN) (.ref aCNC) = some false)
    (kit_NoName_NoName : PySem.W.kitOne K (.ref aCNN) (.ref aCNN) = some true)
    (kit_NoName_Late : PySem.W.kitOne K (.ref aCNN) (.ref aCLT) = some false)
    (kit_NoName_BadRow : PySem.W.kitOne K (.ref aCNN) (.ref aCBR) = some false)
    (kit_Late_NoBound : PySem.W.kitOne K (.ref aCLT) (.ref aCNB) = some false)
    (kit_Late_NoMoment : PySem.W.kitOne K (.ref aCLT) (.ref aCNM) = some false)
    (kit_Late_NoCost : PySem.W.kitOne K (.ref aCLT) (.ref aCNC) = some false)
    (kit_Late_NoName : PySem.W.kitOne K (.ref aCLT) (.ref aCNN) = some false)
    (kit_Late_Late : PySem.W.kitOne K (.ref aCLT) (.ref aCLT) = some true)
    (kit_Late_BadRow : PySem.W.kitOne K (.ref aCLT) (.ref aCBR) = some false)
    (kit_BadRow_NoBound : PySem.W.kitOne K (.ref aCBR) (.ref aCNB) = some false)
    (kit_BadRow_NoMoment : PySem.W.kitOne K (.ref aCBR) (.ref aCNM) = some false)
    (kit_BadRow_NoCost : PySem.W.kitOne K (.ref aCBR) (.ref aCNC) = some false)
    (kit_BadRow_NoName : PySem.W.kitOne K (.ref aCBR) (.ref aCNN) = some false)
    (kit_BadRow_Late : PySem.W.kitOne K (.ref aCBR) (.ref aCLT) = some false)
    (kit_BadRow_BadRow : PySem.W.kitOne K (.ref aCBR) (.ref aCBR) = some true)
    (m_len : PySem.W.nsIn K mainGlobals "len" = some none)
    (m_isinstance : PySem.W.nsIn K mainGlobals "isinstance" = some none)
    (m_int : PySem.W.nsIn K mainGlobals "int" = some none)
    (m_bool : PySem.W.nsIn K mainGlobals "bool" = some none)
    (m_tuple : PySem.W.nsIn K mainGlobals "tuple" = some none)
    (m_list : PySem.W.nsIn K mainGlobals "list" = some none)
    (m_range : PySem.W.nsIn K mainGlobals "range" = some none)
    (m_min : PySem.W.nsIn K mainGlobals "min" = some none)
    (m_max : PySem.W.nsIn K mainGlobals "max" = some none)
    (m_sum : PySem.W.nsIn K mainGlobals "sum" = some none)
    (m_str : PySem.W.nsIn K mainGlobals "str" = some none)
    (m_all : PySem.W.nsIn K mainGlobals "all" = some none)
    (m_sorted : PySem.W.nsIn K mainGlobals "sorted" = some none)
    (m_ValueError : PySem.W.nsIn K mainGlobals "ValueError" = some none)
    (m_enumerate : PySem.W.nsIn K mainGlobals "enumerate" = some none)
    (g_MOST_ROOM : PySem.W.nsIn K mainGlobals "MOST_ROOM" = some (some (.int 1000000000000000 tk_MOST_ROOM)))
    (g_MOST_FLOW : PySem.W.nsIn K mainGlobals "MOST_FLOW" = some (some (.int 1000000000 tk_MOST_FLOW)))
    (g_MOST_SPAN : PySem.W.nsIn K mainGlobals "MOST_SPAN" = some (some (.int 1000000000000 tk_MOST_SPAN)))
    (g_MOST_MOMENT : PySem.W.nsIn K mainGlobals "MOST_MOMENT" = some (some (.int 1000000000000 tk_MOST_MOMENT)))
    (g_MOST_COST : PySem.W.nsIn K mainGlobals "MOST_COST" = some (some (.int 1000000000 tk_MOST_COST)))
    (g_MOST_LETTERS : PySem.W.nsIn K mainGlobals "MOST_LETTERS" = some (some (.int 8 tk_MOST_LETTERS)))
    (g_LETTERS : PySem.W.nsIn K mainGlobals "LETTERS" = some (some (.str "abcdefghijklmnopqrstuvwxyz" tk_LETTERS)))
    (g_MOST_BOUNDS_gate : PySem.W.nsIn K mainGlobals "MOST_BOUNDS_gate" = some (some (.int 4 tk_MOST_BOUNDS_gate)))
    (g_FIGURES : PySem.W.nsIn K mainGlobals "FIGURES" = some (some (.str "0123456789" tk_FIGURES)))
    (g_MOST_FIGURES : PySem.W.nsIn K mainGlobals "MOST_FIGURES" = some (some (.int 16 tk_MOST_FIGURES)))
    (g_MOST_BOUNDS_rows : PySem.W.nsIn K mainGlobals "MOST_BOUNDS_rows" = some (some (.int 4 tk_MOST_BOUNDS_rows)))
    : ∃ fd : FuncData, (∀ (s : Shared) (v : Value), BindsTo s fd ⟨[v], []⟩ [("_law_script", v)]) ∧ ∀ base : Heap, K.In base → base.Ns mainGlobals mg → FnOk l.prog w K mg base (L2.CX l.prog w) 11 fa fd ["_law_script"] (toSp K DL.spLaw) := by
  have e := hfa.symm.trans (PySem.W.mg_of X G a47)
  cases e
  have T : Txt K mg ⟨aCGE, aCNB, aCNM, aCNC, aCNN, aCLT, aCBR, aCJM, aCWM, aCJ, aCW, aCG, aCTU⟩ := ⟨⟨pg_JarMeter, hd_JarMeter, po_JarMeter, sa_JarMeter⟩, na_JarMeter_most, na_JarMeter_flow, na_JarMeter_level, na_JarMeter_last, ⟨pg_WindowMeter, hd_WindowMeter, po_WindowMeter, sa_WindowMeter⟩, na_WindowMeter_most, na_WindowMeter_span, na_WindowMeter_rows, ⟨pg_Jar, hd_Jar, po_Jar, sa_Jar⟩, na_Jar_size, na_Jar_flow, ⟨pg_Window, hd_Window, po_Window, sa_Window⟩, na_Window_most, na_Window_span, ⟨pg_Gate, hd_Gate, po_Gate, sa_Gate⟩, na_Gate_own, na_Gate_common, na_Gate_people, na_Gate_latest, ⟨pg_Turns, hd_Turns, po_Turns, sa_Turns⟩, na_Turns_limits, na_Turns_gate, ic_Jar, im_Jar, ic_Window, im_Window, isn, ist, ⟨xq_GateError, PySem.W.mg_of X G n_GateError, xk_GateError, xb_GateError, xt_GateError⟩, ⟨eg_GateError, ek_GateError, xb_GateError, ed_GateError, ea_GateError, isn, ist, em_GateError⟩, ⟨xq_NoBound, PySem.W.mg_of X G n_NoBound, xk_NoBound, xb_NoBound, xt_NoBound⟩, ⟨eg_NoBound, ek_NoBound, xb_NoBound, ed_NoBound, ea_NoBound, isn, ist, em_NoBound⟩, ⟨xq_NoMoment, PySem.W.mg_of X G n_NoMoment, xk_NoMoment, xb_NoMoment, xt_NoMoment⟩, ⟨eg_NoMoment, ek_NoMoment, xb_NoMoment, ed_NoMoment, ea_NoMoment, isn, ist, em_NoMoment⟩, ⟨xq_NoCost, PySem.W.mg_of X G n_NoCost, xk_NoCost, xb_NoCost, xt_NoCost⟩, ⟨eg_NoCost, ek_NoCost, xb_NoCost, ed_NoCost, ea_NoCost, isn, ist, em_NoCost⟩, ⟨xq_NoName, PySem.W.mg_of X G n_NoName, xk_NoName, xb_NoName, xt_NoName⟩, ⟨eg_NoName, ek_NoName, xb_NoName, ed_NoName, ea_NoName, isn, ist, em_NoName⟩, ⟨xq_Late, PySem.W.mg_of X G n_Late, xk_Late, xb_Late, xt_Late⟩, ⟨eg_Late, ek_Late, xb_Late, ed_Late, ea_Late, isn, ist, em_Late⟩, ⟨xq_BadRow, PySem.W.mg_of X G n_BadRow, xk_BadRow, xb_BadRow, xt_BadRow⟩, ⟨eg_BadRow, ek_BadRow, xb_BadRow, ed_BadRow, ea_BadRow, isn, ist, em_BadRow⟩, PySem.W.exm_ref xb_GateError ed_GateError xt_GateError sub_NoBound_GateError, PySem.W.exm_ref xb_GateError ed_GateError xt_GateError sub_NoMoment_GateError, PySem.W.exm_ref xb_GateError ed_GateError xt_GateError sub_NoCost_GateError, PySem.W.exm_ref xb_GateError ed_GateError xt_GateError sub_NoName_GateError, PySem.W.exm_ref xb_GateError ed_GateError xt_GateError sub_Late_GateError, PySem.W.exm_ref xb_GateError ed_GateError xt_GateError sub_BadRow_GateError, kit_Jar_Jar, kit_Window_Jar, kit_Window_Window, kit_NoneType_Jar, kit_NoneType_Window, kit_int_Jar, kit_int_Window, kit_bool_Jar, kit_bool_Window, kit_str_Jar, kit_str_Window, kit_list_Jar, kit_list_Window, kit_tuple_Jar, kit_tuple_Window, kit_NoBound_NoBound, kit_NoBound_NoMoment, kit_NoBound_NoCost, kit_NoBound_NoName, kit_NoBound_Late, kit_NoBound_BadRow, kit_NoMoment_NoBound, kit_NoMoment_NoMoment, kit_NoMoment_NoCost, kit_NoMoment_NoName, kit_NoMoment_Late, kit_NoMoment_BadRow, kit_NoCost_NoBound, kit_NoCost_NoMoment, kit_NoCost_NoCost, kit_NoCost_NoName, kit_NoCost_Late, kit_NoCost_BadRow, kit_NoName_NoBound, kit_NoName_NoMoment, kit_NoName_NoCost, kit_NoName_NoName, kit_NoName_Late, kit_NoName_BadRow, kit_Late_NoBound, kit_Late_NoMoment, kit_Late_NoCost, kit_Late_NoName, kit_Late_Late, kit_Late_BadRow, kit_BadRow_NoBound, kit_BadRow_NoMoment, kit_BadRow_NoCost, kit_BadRow_NoName, kit_BadRow_Late, kit_BadRow_BadRow, PySem.W.mg_none_of X G m_len, PySem.W.mg_none_of X G m_isinstance, PySem.W.mg_none_of X G m_int, PySem.W.mg_none_of X G m_bool, PySem.W.mg_none_of X G m_tuple, PySem.W.mg_none_of X G m_list, PySem.W.mg_none_of X G m_range, PySem.W.mg_none_of X G m_min, PySem.W.mg_none_of X G m_max, PySem.W.mg_none_of X G m_sum, PySem.W.mg_none_of X G m_str, PySem.W.mg_none_of X G m_all, PySem.W.mg_none_of X G m_sorted, PySem.W.mg_none_of X G m_ValueError, PySem.W.mg_none_of X G m_enumerate, ⟨_, .int _, PySem.W.mg_of X G g_MOST_ROOM, ⟨_, rfl⟩, .int _⟩, ⟨_, .int _, PySem.W.mg_of X G g_MOST_FLOW, ⟨_, rfl⟩, .int _⟩, ⟨_, .int _, PySem.W.mg_of X G g_MOST_SPAN, ⟨_, rfl⟩, .int _⟩, ⟨_, .int _, PySem.W.mg_of X G g_MOST_MOMENT, ⟨_, rfl⟩, .int _⟩, ⟨_, .int _, PySem.W.mg_of X G g_MOST_COST, ⟨_, rfl⟩, .int _⟩, ⟨_, .int _, PySem.W.mg_of X G g_MOST_LETTERS, ⟨_, rfl⟩, .int _⟩, ⟨_, .str _, PySem.W.mg_of X G g_LETTERS, ⟨_, rfl⟩, .str _⟩, ⟨_, .int _, PySem.W.mg_of X G g_MOST_BOUNDS_gate, ⟨_, rfl⟩, .int _⟩, ⟨_, .str _, PySem.W.mg_of X G g_FIGURES, ⟨_, rfl⟩, .str _⟩, ⟨_, .int _, PySem.W.mg_of X G g_MOST_FIGURES, ⟨_, rfl⟩, .int _⟩, ⟨_, .int _, PySem.W.mg_of X G g_MOST_BOUNDS_rows, ⟨_, rfl⟩, .int _⟩, ⟨_, .ref _, PySem.W.mg_of X G n_Jar, rfl, .obj _⟩, ⟨_, .ref _, PySem.W.mg_of X G n_Window, rfl, .obj _⟩, ⟨_, .ref _, PySem.W.mg_of X G n_NoBound, rfl, .obj _⟩, ⟨_, .ref _, PySem.W.mg_of X G n_NoMoment, rfl, .obj _⟩, ⟨_, .ref _, PySem.W.mg_of X G n_NoCost, rfl, .obj _⟩, ⟨_, .ref _, PySem.W.mg_of X G n_NoName, rfl, .obj _⟩, ⟨_, .ref _, PySem.W.mg_of X G n_Late, rfl, .obj _⟩, ⟨_, .ref _, PySem.W.mg_of X G n_BadRow, rfl, .obj _⟩⟩
  have F0 := fun_mk (st := s_Meter_kept) l0 c0 k0
  have b0 := F0.binds (ps := ["self"]) fun _ _ _ _ _ _ us hl => match us, hl with | [_], _ => rfl
  have F1 := fun_mk (st := s_JarMeter_init) l1 c1 k1
  have b1 := F1.binds (ps := ["self", "size", "flow"]) fun _ _ _ _ _ _ us hl => match us, hl with | [_, _, _], _ => rfl
  have F2 := fun_mk (st := s_JarMeter_level_at) l2 c2 k2
  have b2 := F2.binds (ps := ["self", "moment"]) fun _ _ _ _ _ _ us hl => match us, hl with | [_, _], _ => rfl
  have F3 := fun_mk (st := s_JarMeter_wait) l3 c3 k3
  have b3 := F3.binds (ps := ["self", "moment", "cost"]) fun _ _ _ _ _ _ us hl => match us, hl with | [_, _, _], _ => rfl
  have F4 := fun_mk (st := s_JarMeter_take) l4 c4 k4
  have b4 := F4.binds (ps := ["self", "moment", "cost"]) fun _ _ _ _ _ _ us hl => match us, hl with | [_, _, _], _ => rfl
  have F5 := fun_mk (st := s_WindowMeter_init) l5 c5 k5
  have b5 := F5.binds (ps := ["self", "most", "span"]) fun _ _ _ _ _ _ us hl => match us, hl with | [_, _, _], _ => rfl
  have F6 := fun_mk (st := s_WindowMeter_wait) l6 c6 k6
  have b6 := F6.binds (ps := ["self", "moment", "cost"]) fun _ _ _ _ _ _ us hl => match us, hl with | [_, _, _], _ => rfl
  have F7 := fun_mk (st := s_WindowMeter_take) l7 c7 k7
  have b7 := F7.binds (ps := ["self", "moment", "cost"]) fun _ _ _ _ _ _ us hl => match us, hl with | [_, _, _], _ => rfl
  have F8 := fun_mk (st := s_WindowMeter_kept) l8 c8 k8
  have b8 := F8.binds (ps := ["self"]) fun _ _ _ _ _ _ us hl => match us, hl with | [_], _ => rfl
  have F9 := fun_mk (st := s_need_number) l9 c9 k9
  have b9 := F9.binds (ps := ["thing", "least", "most"]) fun _ _ _ _ _ _ us hl => match us, hl with | [_, _, _], _ => rfl
  have F10 := fun_mk (st := s_Jar_init) l10 c10 k10
  have b10 := F10.binds (ps := ["self", "size", "flow"]) fun _ _ _ _ _ _ us hl => match us, hl with | [_, _, _], _ => rfl
  have F11 := fun_mk (st := s_Jar_meter) l11 c11 k11
  have b11 := F11.binds (ps := ["self"]) fun _ _ _ _ _ _ us hl => match us, hl with | [_], _ => rfl
  have F12 := fun_mk (st := s_Window_init) l12 c12 k12
  have b12 := F12.binds (ps := ["self", "most", "span"]) fun _ _ _ _ _ _ us hl => match us, hl with | [_, _, _], _ => rfl
  have F13 := fun_mk (st := s_Window_meter) l13 c13 k13
  have b13 := F13.binds (ps := ["self"]) fun _ _ _ _ _ _ us hl => match us, hl with | [_], _ => rfl
  have F14 := fun_mk (st := s_need_bounds) l14 c14 k14
  have b14 := F14.binds (ps := ["bounds", "many"]) fun _ _ _ _ _ _ us hl => match us, hl with | [_, _], _ => rfl
  have F15 := fun_mk (st := s_is_whole) l15 c15 k15
  have b15 := F15.binds (ps := ["thing", "least", "most"]) fun _ _ _ _ _ _ us hl => match us, hl with | [_, _, _], _ => rfl
  have F16 := fun_mk (st := s_need_moment) l16 c16 k16
  have b16 := F16.binds (ps := ["thing"]) fun _ _ _ _ _ _ us hl => match us, hl with | [_], _ => rfl
  have F17 := fun_mk (st := s_need_cost) l17 c17 k17
  have b17 := F17.binds (ps := ["thing"]) fun _ _ _ _ _ _ us hl => match us, hl with | [_], _ => rfl
  have F18 := fun_mk (st := s_need_name) l18 c18 k18
  have b18 := F18.binds (ps := ["thing"]) fun _ _ _ _ _ _ us hl => match us, hl with | [_], _ => rfl
  have F19 := fun_mk (st := s_meters_of) l19 c19 k19
  have b19 := F19.binds (ps := ["bounds"]) fun _ _ _ _ _ _ us hl => match us, hl with | [_], _ => rfl
  have F20 : FunD K "__init__" "Gate.__init__" (defArgs s_Gate_init) (defBody s_Gate_init) (defScope s_Gate_init) [.non] [] f20 (PySem.W.fnOf "__init__" "Gate.__init__" (defArgs s_Gate_init) (defBody s_Gate_init) (defScope s_Gate_init) (.ref T20) kV20 dc20 pm20 an20 cd20 ct20) := ⟨⟨oc20, od20, .ref T20, kV20, dc20, pm20, an20, cd20, ct20, sl20, rfl, l20, c20, .inr ⟨by simp, T20, _, [.none], nT20, rfl, lT20, rfl, .cons rfl .nil⟩, .inl rfl⟩, k20⟩
  obtain ⟨ds20, v20, b20⟩ := F20.binds1 (ps := ["self", "own", "common"]) 3 1 (by simp) rfl (fun T kV doc pm an cdv ct us its hu hi => match us, hu, its, hi with | [_, _, _], _, [_], _ => ⟨_, rfl, rfl⟩)
  cases v20
  have F21 := fun_mk (st := s_Gate_meters_for) l21 c21 k21
  have b21 := F21.binds (ps := ["self", "name"]) fun _ _ _ _ _ _ us hl => match us, hl with | [_, _], _ => rfl
  have F22 := fun_mk (st := s_Gate_ask) l22 c22 k22
  have b22 := F22.binds (ps := ["self", "name", "moment", "cost"]) fun _ _ _ _ _ _ us hl => match us, hl with | [_, _, _, _], _ => rfl
  have F23 := fun_mk (st := s_Gate_visit) l23 c23 k23
  have b23 := F23.binds (ps := ["self", "name", "moment", "cost"]) fun _ _ _ _ _ _ us hl => match us, hl with | [_, _, _, _], _ => rfl
  have F24 := fun_mk (st := s_Gate_names) l24 c24 k24
  have b24 := F24.binds (ps := ["self"]) fun _ _ _ _ _ _ us hl => match us, hl with | [_], _ => rfl
  have F25 := fun_mk (st := s_Gate_kept) l25 c25 k25
  have b25 := F25.binds (ps := ["self"]) fun _ _ _ _ _ _ us hl => match us, hl with | [_], _ => rfl
  have F26 := fun_mk (st := s_name_of) l26 c26 k26
  have b26 := F26.binds (ps := ["error"]) fun _ _ _ _ _ _ us hl => match us, hl with | [_], _ => rfl
  have F27 := fun_mk (st := s_number_of) l27 c27 k27
  have b27 := F27.binds (ps := ["word"]) fun _ _ _ _ _ _ us hl => match us, hl with | [_], _ => rfl
  have F28 := fun_mk (st := s_need_words) l28 c28 k28
  have b28 := F28.binds (ps := ["words", "many"]) fun _ _ _ _ _ _ us hl => match us, hl with | [_, _], _ => rfl
  have F29 := fun_mk (st := s_answer_text) l29 c29 k29
  have b29 := F29.binds (ps := ["found"]) fun _ _ _ _ _ _ us hl => match us, hl with | [_], _ => rfl
  have F30 := fun_mk (st := s_Turns_init) l30 c30 k30
  have b30 := F30.binds (ps := ["self"]) fun _ _ _ _ _ _ us hl => match us, hl with | [_], _ => rfl
  have F31 := fun_mk (st := s_Turns_bound_row) l31 c31 k31
  have b31 := F31.binds (ps := ["self", "words"]) fun _ _ _ _ _ _ us hl => match us, hl with | [_, _], _ => rfl
  have F32 := fun_mk (st := s_Turns_begin) l32 c32 k32
  have b32 := F32.binds (ps := ["self"]) fun _ _ _ _ _ _ us hl => match us, hl with | [_], _ => rfl
  have F33 := fun_mk (st := s_Turns_visit_row) l33 c33 k33
  have b33 := F33.binds (ps := ["self", "words"]) fun _ _ _ _ _ _ us hl => match us, hl with | [_, _], _ => rfl
  have F34 := fun_mk (st := s_Turns_answer_to) l34 c34 k34
  have b34 := F34.binds (ps := ["self", "words"]) fun _ _ _ _ _ _ us hl => match us, hl with | [_, _], _ => rfl
  have F35 := fun_mk (st := s_play) l35 c35 k35
  have b35 := F35.binds (ps := ["text"]) fun _ _ _ _ _ _ us hl => match us, hl with | [_], _ => rfl
  have F36 := fun_mk (st := s__law_cell) l36 c36 k36
  have b36 := F36.binds (ps := ["_law_script", "_law_k"]) fun _ _ _ _ _ _ us hl => match us, hl with | [_, _], _ => rfl
  have F37 := fun_mk (st := s__law_bound) l37 c37 k37
  have b37 := F37.binds (ps := ["_law_cell_here", "_law_scale_here"]) fun _ _ _ _ _ _ us hl => match us, hl with | [_, _], _ => rfl
  have F38 := fun_mk (st := s__law_made) l38 c38 k38
  have b38 := F38.binds (ps := ["_law_bound_here"]) fun _ _ _ _ _ _ us hl => match us, hl with | [_], _ => rfl
  have F39 := fun_mk (st := s__law_gap) l39 c39 k39
  have b39 := F39.binds (ps := ["_law_cell_here"]) fun _ _ _ _ _ _ us hl => match us, hl with | [_], _ => rfl
  have F40 := fun_mk (st := s__law_cost) l40 c40 k40
  have b40 := F40.binds (ps := ["_law_cell_here", "_law_scale_here"]) fun _ _ _ _ _ _ us hl => match us, hl with | [_, _], _ => rfl
  have F41 := fun_mk (st := s__law_scale) l41 c41 k41
  have b41 := F41.binds (ps := ["_law_cell_here"]) fun _ _ _ _ _ _ us hl => match us, hl with | [_], _ => rfl
  have F42 := fun_mk (st := s__law_kind) l42 c42 k42
  have b42 := F42.binds (ps := ["_law_error"]) fun _ _ _ _ _ _ us hl => match us, hl with | [_], _ => rfl
  have F43 := fun_mk (st := s__law_text) l43 c43 k43
  have b43 := F43.binds (ps := ["_law_found"]) fun _ _ _ _ _ _ us hl => match us, hl with | [_], _ => rfl
  have F44 := fun_mk (st := s__law_answer) l44 c44 k44
  have b44 := F44.binds (ps := ["_law_gate", "_law_asked"]) fun _ _ _ _ _ _ us hl => match us, hl with | [_, _], _ => rfl
  have F45 := fun_mk (st := s__law_spread) l45 c45 k45
  have b45 := F45.binds (ps := ["_law_cell_here", "_law_words"]) fun _ _ _ _ _ _ us hl => match us, hl with | [_, _], _ => rfl
  have F46 := fun_mk (st := s__law_row) l46 c46 k46
  have b46 := F46.binds (ps := ["_law_cell_here", "_law_more", "_law_moment", "_law_scale_here"]) fun _ _ _ _ _ _ us hl => match us, hl with | [_, _, _, _], _ => rfl
  have F47 := fun_mk (st := s_law) l47 c47 k47
  refine ⟨PySem.W.fnOf "law" "law" (defArgs s_law) (defBody s_law) (defScope s_law) .none kV47 dc47 pm47 an47 cd47 ct47, fun s v => .of_eq rfl, fun base _ _ => ?_⟩
  have G0 := ok_Meter_kept (Pg := l.prog) (w := w) (base := base) (A := ⟨aCGE, aCNB, aCNM, aCNC, aCNN, aCLT, aCBR, aCJM, aCWM, aCJ, aCW, aCG, aCTU⟩) F0 T
  have M_JarMeter_kept : DMet l.prog w K mg base 1 aCJM "kept" (S_Meter_kept ⟨aCGE, aCNB, aCNM, aCNC, aCNN, aCLT, aCBR, aCJM, aCWM, aCJ, aCW, aCG, aCTU⟩) [] := ⟨_, dfn_of G0 b0, T.cl_JarMeter, ⟨a0_JarMeter, i0, k0⟩⟩
  have G1 := ok_JarMeter_init (Pg := l.prog) (w := w) (base := base) (A := ⟨aCGE, aCNB, aCNM, aCNC, aCNN, aCLT, aCBR, aCJM, aCWM, aCJ, aCW, aCG, aCTU⟩) F1 T
  have F_JarMeter : DMak l.prog w K mg base 1 "JarMeter" aCJM (S_JarMeter_init ⟨aCGE, aCNB, aCNM, aCNC, aCNN, aCLT, aCBR, aCJM, aCWM, aCJ, aCW, aCG, aCTU⟩) [] := ⟨_, dfn_of G1 b1, ⟨mk_JarMeter, a1_JarMeter, i1, kc_JarMeter⟩, PySem.W.mg_of X G n_JarMeter⟩
  have G2 := ok_JarMeter_level_at (Pg := l.prog) (w := w) (base := base) (A := ⟨aCGE, aCNB, aCNM, aCNC, aCNN, aCLT, aCBR, aCJM, aCWM, aCJ, aCW, aCG, aCTU⟩) F2 T
  have M_JarMeter_level_at : DMet l.prog w K mg base 1 aCJM "level_at" (S_JarMeter_level_at ⟨aCGE, aCNB, aCNM, aCNC, aCNN, aCLT, aCBR, aCJM, aCWM, aCJ, aCW, aCG, aCTU⟩) [] := ⟨_, dfn_of G2 b2, T.cl_JarMeter, ⟨a2_JarMeter, i2, k2⟩⟩
  have G3 := ok_JarMeter_wait (Pg := l.prog) (w := w) (base := base) (A := ⟨aCGE, aCNB, aCNM, aCNC, aCNN, aCLT, aCBR, aCJM, aCWM, aCJ, aCW, aCG, aCTU⟩) F3 T M_JarMeter_level_at
  have M_JarMeter_wait : DMet l.prog w K mg base 2 aCJM "wait" (S_JarMeter_wait ⟨aCGE, aCNB, aCNM, aCNC, aCNN, aCLT, aCBR, aCJM, aCWM, aCJ, aCW, aCG, aCTU⟩) [] := ⟨_, dfn_of G3 b3, T.cl_JarMeter, ⟨a3_JarMeter, i3, k3⟩⟩
  have G4 := ok_JarMeter_take (Pg := l.prog) (w := w) (base := base) (A := ⟨aCGE, aCNB, aCNM, aCNC, aCNN, aCLT, aCBR, aCJM, aCWM, aCJ, aCW, aCG, aCTU⟩) F4 T M_JarMeter_level_at
  have M_JarMeter_take : DMet l.prog w K mg base 2 aCJM "take" (S_JarMeter_take ⟨aCGE, aCNB, aCNM, aCNC, aCNN, aCLT, aCBR, aCJM, aCWM, aCJ, aCW, aCG, aCTU⟩) [] := ⟨_, dfn_of G4 b4, T.cl_JarMeter, ⟨a4_JarMeter, i4, k4⟩⟩
  have G5 := ok_WindowMeter_init (Pg := l.prog) (w := w) (base := base) (A := ⟨aCGE, aCNB, aCNM, aCNC, aCNN, aCLT, aCBR, aCJM, aCWM, aCJ, aCW, aCG, aCTU⟩) F5 T
  have F_WindowMeter : DMak l.prog w K mg base 1 "WindowMeter" aCWM (S_WindowMeter_init ⟨aCGE, aCNB, aCNM, aCNC, aCNN, aCLT, aCBR, aCJM, aCWM, aCJ, aCW, aCG, aCTU⟩) [] := ⟨_, dfn_of G5 b5, ⟨mk_WindowMeter, a5_WindowMeter, i5, kc_WindowMeter⟩, PySem.W.mg_of X G n_WindowMeter⟩
  have G6 := ok_WindowMeter_wait (Pg := l.prog) (w := w) (base := base) (A := ⟨aCGE, aCNB, aCNM, aCNC, aCNN, aCLT, aCBR, aCJM, aCWM, aCJ, aCW, aCG, aCTU⟩) F6 T
  have M_WindowMeter_wait : DMet l.prog w K mg base 1 aCWM "wait" (S_WindowMeter_wait ⟨aCGE, aCNB, aCNM, aCNC, aCNN, aCLT, aCBR, aCJM, aCWM, aCJ, aCW, aCG, aCTU⟩) [] := ⟨_, dfn_of G6 b6, T.cl_WindowMeter, ⟨a6_WindowMeter, i6, k6⟩⟩
  have G7 := ok_WindowMeter_take (Pg := l.prog) (w := w) (base := base) (A := ⟨aCGE, aCNB, aCNM, aCNC, aCNN, aCLT, aCBR, aCJM, aCWM, aCJ, aCW, aCG, aCTU⟩) F7 T
  have M_WindowMeter_take : DMet l.prog w K mg base 1 aCWM "take" (S_WindowMeter_take ⟨aCGE, aCNB, aCNM, aCNC, aCNN, aCLT, aCBR, aCJM, aCWM, aCJ, aCW, aCG, aCTU⟩) [] := ⟨_, dfn_of G7 b7, T.cl_WindowMeter, ⟨a7_WindowMeter, i7, k7⟩⟩
  have G8 := ok_WindowMeter_kept (Pg := l.prog) (w := w) (base := base) (A := ⟨aCGE, aCNB, aCNM, aCNC, aCNN, aCLT, aCBR, aCJM, aCWM, aCJ, aCW, aCG, aCTU⟩) F8 T
  have M_WindowMeter_kept : DMet l.prog w K mg base 1 aCWM "kept" (S_WindowMeter_kept ⟨aCGE, aCNB, aCNM, aCNC, aCNN, aCLT, aCBR, aCJM, aCWM, aCJ, aCW, aCG, aCTU⟩) [] := ⟨_, dfn_of G8 b8, T.cl_WindowMeter, ⟨a8_WindowMeter, i8, k8⟩⟩
  have G9 := ok_need_number (Pg := l.prog) (w := w) (base := base) (A := ⟨aCGE, aCNB, aCNM, aCNC, aCNN, aCLT, aCBR, aCJM, aCWM, aCJ, aCW, aCG, aCTU⟩) F9 T
  have F_need_number : DCal l.prog w K mg base 1 "need_number" (S_need_number ⟨aCGE, aCNB, aCNM, aCNC, aCNN, aCLT, aCBR, aCJM, aCWM, aCJ, aCW, aCG, aCTU⟩) [] := ⟨_, dfn_of G9 b9, PySem.W.mg_of X G a9, k9⟩
  have G10 := ok_Jar_init (Pg := l.prog) (w := w) (base := base) (A := ⟨aCGE, aCNB, aCNM, aCNC, aCNN, aCLT, aCBR, aCJM, aCWM, aCJ, aCW, aCG, aCTU⟩) F10 T F_need_number
  have F_Jar : DMak l.prog w K mg base 2 "Jar" aCJ (S_Jar_init ⟨aCGE, aCNB, aCNM, aCNC, aCNN, aCLT, aCBR, aCJM, aCWM, aCJ, aCW, aCG, aCTU⟩) [] := ⟨_, dfn_of G10 b10, ⟨mk_Jar, a10_Jar, i10, kc_Jar⟩, PySem.W.mg_of X G n_Jar⟩
  have G11 := ok_Jar_meter (Pg := l.prog) (w := w) (base := base) (A := ⟨aCGE, aCNB, aCNM, aCNC, aCNN, aCLT, aCBR, aCJM, aCWM, aCJ, aCW, aCG, aCTU⟩) F11 T F_JarMeter
  have M_Jar_meter : DMet l.prog w K mg base 3 aCJ "meter" (S_Jar_meter ⟨aCGE, aCNB, aCNM, aCNC, aCNN, aCLT, aCBR, aCJM, aCWM, aCJ, aCW, aCG, aCTU⟩) [] := ⟨_, dfn_of G11 b11, T.cl_Jar, ⟨a11_Jar, i11, k11⟩⟩
  have G12 := ok_Window_init (Pg := l.prog) (w := w) (base := base) (A := ⟨aCGE, aCNB, aCNM, aCNC, aCNN, aCLT, aCBR, aCJM, aCWM, aCJ, aCW, aCG, aCTU⟩) F12 T F_need_number
  have F_Window : DMak l.prog w K mg base 2 "Window" aCW (S_Window_init ⟨aCGE, aCNB, aCNM, aCNC, aCNN, aCLT, aCBR, aCJM, aCWM, aCJ, aCW, aCG, aCTU⟩) [] := ⟨_, dfn_of G12 b12, ⟨mk_Window, a12_Window, i12, kc_Window⟩, PySem.W.mg_of X G n_Window⟩
  have G13 := ok_Window_meter (Pg := l.prog) (w := w) (base := base) (A := ⟨aCGE, aCNB, aCNM, aCNC, aCNN, aCLT, aCBR, aCJM, aCWM, aCJ, aCW, aCG, aCTU⟩) F13 T F_WindowMeter
  have M_Window_meter : DMet l.prog w K mg base 3 aCW "meter" (S_Window_meter ⟨aCGE, aCNB, aCNM, aCNC, aCNN, aCLT, aCBR, aCJM, aCWM, aCJ, aCW, aCG, aCTU⟩) [] := ⟨_, dfn_of G13 b13, T.cl_Window, ⟨a13_Window, i13, k13⟩⟩
  have G14 := ok_need_bounds (Pg := l.prog) (w := w) (base := base) (A := ⟨aCGE, aCNB, aCNM, aCNC, aCNN, aCLT, aCBR, aCJM, aCWM, aCJ, aCW, aCG, aCTU⟩) F14 T
  have F_need_bounds : DCal l.prog w K mg base 1 "need_bounds" (S_need_bounds ⟨aCGE, aCNB, aCNM, aCNC, aCNN, aCLT, aCBR, aCJM, aCWM, aCJ, aCW, aCG, aCTU⟩) [] := ⟨_, dfn_of G14 b14, PySem.W.mg_of X G a14, k14⟩
  have G15 := ok_is_whole (Pg := l.prog) (w := w) (base := base) (A := ⟨aCGE, aCNB, aCNM, aCNC, aCNN, aCLT, aCBR, aCJM, aCWM, aCJ, aCW, aCG, aCTU⟩) F15 T
  have F_is_whole : DCal l.prog w K mg base 1 "is_whole" (S_is_whole ⟨aCGE, aCNB, aCNM, aCNC, aCNN, aCLT, aCBR, aCJM, aCWM, aCJ, aCW, aCG, aCTU⟩) [] := ⟨_, dfn_of G15 b15, PySem.W.mg_of X G a15, k15⟩
  have G16 := ok_need_moment (Pg := l.prog) (w := w) (base := base) (A := ⟨aCGE, aCNB, aCNM, aCNC, aCNN, aCLT, aCBR, aCJM, aCWM, aCJ, aCW, aCG, aCTU⟩) F16 T F_is_whole
  have F_need_moment : DCal l.prog w K mg base 2 "need_moment" (S_need_moment ⟨aCGE, aCNB, aCNM, aCNC, aCNN, aCLT, aCBR, aCJM, aCWM, aCJ, aCW, aCG, aCTU⟩) [] := ⟨_, dfn_of G16 b16, PySem.W.mg_of X G a16, k16⟩
  have G17 := ok_need_cost (Pg := l.prog) (w := w) (base := base) (A := ⟨aCGE, aCNB, aCNM, aCNC, aCNN, aCLT, aCBR, aCJM, aCWM, aCJ, aCW, aCG, aCTU⟩) F17 T F_is_whole
  have F_need_cost : DCal l.prog w K mg base 2 "need_cost" (S_need_cost ⟨aCGE, aCNB, aCNM, aCNC, aCNN, aCLT, aCBR, aCJM, aCWM, aCJ, aCW, aCG, aCTU⟩) [] := ⟨_, dfn_of G17 b17, PySem.W.mg_of X G a17, k17⟩
  have G18 := ok_need_name (Pg := l.prog) (w := w) (base := base) (A := ⟨aCGE, aCNB, aCNM, aCNC, aCNN, aCLT, aCBR, aCJM, aCWM, aCJ, aCW, aCG, aCTU⟩) F18 T
  have F_need_name : DCal l.prog w K mg base 1 "need_name" (S_need_name ⟨aCGE, aCNB, aCNM, aCNC, aCNN, aCLT, aCBR, aCJM, aCWM, aCJ, aCW, aCG, aCTU⟩) [] := ⟨_, dfn_of G18 b18, PySem.W.mg_of X G a18, k18⟩
  have G19 := ok_meters_of (Pg := l.prog) (w := w) (base := base) (A := ⟨aCGE, aCNB, aCNM, aCNC, aCNN, aCLT, aCBR, aCJM, aCWM, aCJ, aCW, aCG, aCTU⟩) F19 T M_Jar_meter M_Window_meter
  have F_meters_of : DCal l.prog w K mg base 4 "meters_of" (S_meters_of ⟨aCGE, aCNB, aCNM, aCNC, aCNN, aCLT, aCBR, aCJM, aCWM, aCJ, aCW, aCG, aCTU⟩) [] := ⟨_, dfn_of G19 b19, PySem.W.mg_of X G a19, k19⟩
  have G20 := ok_Gate_init (Pg := l.prog) (w := w) (base := base) (A := ⟨aCGE, aCNB, aCNM, aCNC, aCNN, aCLT, aCBR, aCJM, aCWM, aCJ, aCW, aCG, aCTU⟩) F20 T F_need_bounds F_meters_of
  have F_Gate : DMak l.prog w K mg base 5 "Gate" aCG (S_Gate_init ⟨aCGE, aCNB, aCNM, aCNC, aCNN, aCLT, aCBR, aCJM, aCWM, aCJ, aCW, aCG, aCTU⟩) [] := ⟨_, dfn_of G20 b20, ⟨mk_Gate, a20_Gate, i20, kc_Gate⟩, PySem.W.mg_of X G n_Gate⟩
  have G21 := ok_Gate_meters_for (Pg := l.prog) (w := w) (base := base) (A := ⟨aCGE, aCNB, aCNM, aCNC, aCNN, aCLT, aCBR, aCJM, aCWM, aCJ, aCW, aCG, aCTU⟩) F21 T F_meters_of
  have M_Gate_meters_for : DMet l.prog w K mg base 5 aCG "meters_for" (S_Gate_meters_for ⟨aCGE, aCNB, aCNM, aCNC, aCNN, aCLT, aCBR, aCJM, aCWM, aCJ, aCW, aCG, aCTU⟩) [] := ⟨_, dfn_of G21 b21, T.cl_Gate, ⟨a21_Gate, i21, k21⟩⟩
  have G22 := ok_Gate_ask (Pg := l.prog) (w := w) (base := base) (A := ⟨aCGE, aCNB, aCNM, aCNC, aCNN, aCLT, aCBR, aCJM, aCWM, aCJ, aCW, aCG, aCTU⟩) F22 T F_need_name F_need_moment F_need_cost M_Gate_meters_for M_JarMeter_wait M_WindowMeter_wait
  have M_Gate_ask : DMet l.prog w K mg base 6 aCG "ask" (S_Gate_ask ⟨aCGE, aCNB, aCNM, aCNC, aCNN, aCLT, aCBR, aCJM, aCWM, aCJ, aCW, aCG, aCTU⟩) [] := ⟨_, dfn_of G22 b22, T.cl_Gate, ⟨a22_Gate, i22, k22⟩⟩
  have G23 := ok_Gate_visit (Pg := l.prog) (w := w) (base := base) (A := ⟨aCGE, aCNB, aCNM, aCNC, aCNN, aCLT, aCBR, aCJM, aCWM, aCJ, aCW, aCG, aCTU⟩) F23 T M_Gate_ask M_Gate_meters_for M_JarMeter_take M_WindowMeter_take
  have M_Gate_visit : DMet l.prog w K mg base 7 aCG "visit" (S_Gate_visit ⟨aCGE, aCNB, aCNM, aCNC, aCNN, aCLT, aCBR, aCJM, aCWM, aCJ, aCW, aCG, aCTU⟩) [] := ⟨_, dfn_of G23 b23, T.cl_Gate, ⟨a23_Gate, i23, k23⟩⟩
  have G24 := ok_Gate_names (Pg := l.prog) (w := w) (base := base) (A := ⟨aCGE, aCNB, aCNM, aCNC, aCNN, aCLT, aCBR, aCJM, aCWM, aCJ, aCW, aCG, aCTU⟩) F24 T
  have M_Gate_names : DMet l.prog w K mg base 1 aCG "names" (S_Gate_names ⟨aCGE, aCNB, aCNM, aCNC, aCNN, aCLT, aCBR, aCJM, aCWM, aCJ, aCW, aCG, aCTU⟩) [] := ⟨_, dfn_of G24 b24, T.cl_Gate, ⟨a24_Gate, i24, k24⟩⟩
  have G25 := ok_Gate_kept (Pg := l.prog) (w := w) (base := base) (A := ⟨aCGE, aCNB, aCNM, aCNC, aCNN, aCLT, aCBR, aCJM, aCWM, aCJ, aCW, aCG, aCTU⟩) F25 T M_JarMeter_kept M_WindowMeter_kept
  have M_Gate_kept : DMet l.prog w K mg base 2 aCG "kept" (S_Gate_kept ⟨aCGE, aCNB, aCNM, aCNC, aCNN, aCLT, aCBR, aCJM, aCWM, aCJ, aCW, aCG, aCTU⟩) [] := ⟨_, dfn_of G25 b25, T.cl_Gate, ⟨a25_Gate, i25, k25⟩⟩
  have G26 := ok_name_of (Pg := l.prog) (w := w) (base := base) (A := ⟨aCGE, aCNB, aCNM, aCNC, aCNN, aCLT, aCBR, aCJM, aCWM, aCJ, aCW, aCG, aCTU⟩) F26 T
  have F_name_of : DCalQ l.prog w K mg base 1 "name_of" (S_name_of ⟨aCGE, aCNB, aCNM, aCNC, aCNN, aCLT, aCBR, aCJM, aCWM, aCJ, aCW, aCG, aCTU⟩) := ⟨_, _, _, G26, b26, PySem.W.mg_of X G a26, k26⟩
  have G27 := ok_number_of (Pg := l.prog) (w := w) (base := base) (A := ⟨aCGE, aCNB, aCNM, aCNC, aCNN, aCLT, aCBR, aCJM, aCWM, aCJ, aCW, aCG, aCTU⟩) F27 T
  have F_number_of : DCal l.prog w K mg base 1 "number_of" (S_number_of ⟨aCGE, aCNB, aCNM, aCNC, aCNN, aCLT, aCBR, aCJM, aCWM, aCJ, aCW, aCG, aCTU⟩) [] := ⟨_, dfn_of G27 b27, PySem.W.mg_of X G a27, k27⟩
  have G28 := ok_need_words (Pg := l.prog) (w := w) (base := base) (A := ⟨aCGE, aCNB, aCNM, aCNC, aCNN, aCLT, aCBR, aCJM, aCWM, aCJ, aCW, aCG, aCTU⟩) F28 T
  have F_need_words : DCal l.prog w K mg base 1 "need_words" (S_need_words ⟨aCGE, aCNB, aCNM, aCNC, aCNN, aCLT, aCBR, aCJM, aCWM, aCJ, aCW, aCG, aCTU⟩) [] := ⟨_, dfn_of G28 b28, PySem.W.mg_of X G a28, k28⟩
  have G29 := ok_answer_text (Pg := l.prog) (w := w) (base := base) (A := ⟨aCGE, aCNB, aCNM, aCNC, aCNN, aCLT, aCBR, aCJM, aCWM, aCJ, aCW, aCG, aCTU⟩) F29 T
  have F_answer_text : DCal l.prog w K mg base 1 "answer_text" (S_answer_text ⟨aCGE, aCNB, aCNM, aCNC, aCNN, aCLT, aCBR, aCJM, aCWM, aCJ, aCW, aCG, aCTU⟩) [] := ⟨_, dfn_of G29 b29, PySem.W.mg_of X G a29, k29⟩
  have G30 := ok_Turns_init (Pg := l.prog) (w := w) (base := base) (A := ⟨aCGE, aCNB, aCNM, aCNC, aCNN, aCLT, aCBR, aCJM, aCWM, aCJ, aCW, aCG, aCTU⟩) F30 T
  have F_Turns : DMak l.prog w K mg base 1 "Turns" aCTU (S_Turns_init ⟨aCGE, aCNB, aCNM, aCNC, aCNN, aCLT, aCBR, aCJM, aCWM, aCJ, aCW, aCG, aCTU⟩) [] := ⟨_, dfn_of G30 b30, ⟨mk_Turns, a30_Turns, i30, kc_Turns⟩, PySem.W.mg_of X G n_Turns⟩
  have G31 := ok_Turns_bound_row (Pg := l.prog) (w := w) (base := base) (A := ⟨aCGE, aCNB, aCNM, aCNC, aCNN, aCLT, aCBR, aCJM, aCWM, aCJ, aCW, aCG, aCTU⟩) F31 T F_need_words F_number_of F_Jar F_Window
  have M_Turns_bound_row : DMet l.prog w K mg base 4 aCTU "bound_row" (S_Turns_bound_row ⟨aCGE, aCNB, aCNM, aCNC, aCNN, aCLT, aCBR, aCJM, aCWM, aCJ, aCW, aCG, aCTU⟩) [] := ⟨_, dfn_of G31 b31, T.cl_Turns, ⟨a31_Turns, i31, k31⟩⟩
  have G32 := ok_Turns_begin (Pg := l.prog) (w := w) (base := base) (A := ⟨aCGE, aCNB, aCNM, aCNC, aCNN, aCLT, aCBR, aCJM, aCWM, aCJ, aCW, aCG, aCTU⟩) F32 T F_Gate
  have M_Turns_begin : DMet l.prog w K mg base 7 aCTU "begin" (S_Turns_begin ⟨aCGE, aCNB, aCNM, aCNC, aCNN, aCLT, aCBR, aCJM, aCWM, aCJ, aCW, aCG, aCTU⟩) [] := ⟨_, dfn_of G32 b32, T.cl_Turns, ⟨a32_Turns, i32, k32⟩⟩
  have G33 := ok_Turns_visit_row (Pg := l.prog) (w := w) (base := base) (A := ⟨aCGE, aCNB, aCNM, aCNC, aCNN, aCLT, aCBR, aCJM, aCWM, aCJ, aCW, aCG, aCTU⟩) F33 T F_need_words F_number_of F_answer_text M_Turns_begin M_Gate_ask M_Gate_visit
  have M_Turns_visit_row : DMet l.prog w K mg base 8 aCTU "visit_row" (S_Turns_visit_row ⟨aCGE, aCNB, aCNM, aCNC, aCNN, aCLT, aCBR, aCJM, aCWM, aCJ, aCW, aCG, aCTU⟩) [] := ⟨_, dfn_of G33 b33, T.cl_Turns, ⟨a33_Turns, i33, k33⟩⟩
  have G34 := ok_Turns_answer_to (Pg := l.prog) (w := w) (base := base) (A := ⟨aCGE, aCNB, aCNM, aCNC, aCNN, aCLT, aCBR, aCJM, aCWM, aCJ, aCW, aCG, aCTU⟩) F34 T F_need_words M_Turns_begin M_Turns_bound_row M_Turns_visit_row M_Gate_kept M_Gate_names
  have M_Turns_answer_to : DMet l.prog w K mg base 9 aCTU "answer_to" (S_Turns_answer_to ⟨aCGE, aCNB, aCNM, aCNC, aCNN, aCLT, aCBR, aCJM, aCWM, aCJ, aCW, aCG, aCTU⟩) [] := ⟨_, dfn_of G34 b34, T.cl_Turns, ⟨a34_Turns, i34, k34⟩⟩
  have G35 := ok_play (Pg := l.prog) (w := w) (base := base) (A := ⟨aCGE, aCNB, aCNM, aCNC, aCNN, aCLT, aCBR, aCJM, aCWM, aCJ, aCW, aCG, aCTU⟩) F35 T F_Turns F_name_of M_Turns_answer_to
  have F_play : DCal l.prog w K mg base 10 "play" (S_play ⟨aCGE, aCNB, aCNM, aCNC, aCNN, aCLT, aCBR, aCJM, aCWM, aCJ, aCW, aCG, aCTU⟩) [] := ⟨_, dfn_of G35 b35, PySem.W.mg_of X G a35, k35⟩
  have G36 := ok__law_cell (Pg := l.prog) (w := w) (base := base) (A := ⟨aCGE, aCNB, aCNM, aCNC, aCNN, aCLT, aCBR, aCJM, aCWM, aCJ, aCW, aCG, aCTU⟩) F36 T
  have F__law_cell : DCal l.prog w K mg base 1 "_law_cell" (S__law_cell ⟨aCGE, aCNB, aCNM, aCNC, aCNN, aCLT, aCBR, aCJM, aCWM, aCJ, aCW, aCG, aCTU⟩) [] := ⟨_, dfn_of G36 b36, PySem.W.mg_of X G a36, k36⟩
  have G37 := ok__law_bound (Pg := l.prog) (w := w) (base := base) (A := ⟨aCGE, aCNB, aCNM, aCNC, aCNN, aCLT, aCBR, aCJM, aCWM, aCJ, aCW, aCG, aCTU⟩) F37 T
  have F__law_bound : DCal l.prog w K mg base 1 "_law_bound" (S__law_bound ⟨aCGE, aCNB, aCNM, aCNC, aCNN, aCLT, aCBR, aCJM, aCWM, aCJ, aCW, aCG, aCTU⟩) [] := ⟨_, dfn_of G37 b37, PySem.W.mg_of X G a37, k37⟩
  have G38 := ok__law_made (Pg := l.prog) (w := w) (base := base) (A := ⟨aCGE, aCNB, aCNM, aCNC, aCNN, aCLT, aCBR, aCJM, aCWM, aCJ, aCW, aCG, aCTU⟩) F38 T F_Window F_Jar
  have F__law_made : DCal l.prog w K mg base 4 "_law_made" (S__law_made ⟨aCGE, aCNB, aCNM, aCNC, aCNN, aCLT, aCBR, aCJM, aCWM, aCJ, aCW, aCG, aCTU⟩) [] := ⟨_, dfn_of G38 b38, PySem.W.mg_of X G a38, k38⟩
  have G39 := ok__law_gap (Pg := l.prog) (w := w) (base := base) (A := ⟨aCGE, aCNB, aCNM, aCNC, aCNN, aCLT, aCBR, aCJM, aCWM, aCJ, aCW, aCG, aCTU⟩) F39 T
  have F__law_gap : DCal l.prog w K mg base 1 "_law_gap" (S__law_gap ⟨aCGE, aCNB, aCNM, aCNC, aCNN, aCLT, aCBR, aCJM, aCWM, aCJ, aCW, aCG, aCTU⟩) [] := ⟨_, dfn_of G39 b39, PySem.W.mg_of X G a39, k39⟩
  have G40 := ok__law_cost (Pg := l.prog) (w := w) (base := base) (A := ⟨aCGE, aCNB, aCNM, aCNC, aCNN, aCLT, aCBR, aCJM, aCWM, aCJ, aCW, aCG, aCTU⟩) F40 T
  have F__law_cost : DCal l.prog w K mg base 1 "_law_cost" (S__law_cost ⟨aCGE, aCNB, aCNM, aCNC, aCNN, aCLT, aCBR, aCJM, aCWM, aCJ, aCW, aCG, aCTU⟩) [] := ⟨_, dfn_of G40 b40, PySem.W.mg_of X G a40, k40⟩
  have G41 := ok__law_scale (Pg := l.prog) (w := w) (base := base) (A := ⟨aCGE, aCNB, aCNM, aCNC, aCNN, aCLT, aCBR, aCJM, aCWM, aCJ, aCW, aCG, aCTU⟩) F41 T
  have F__law_scale : DCal l.prog w K mg base 1 "_law_scale" (S__law_scale ⟨aCGE, aCNB, aCNM, aCNC, aCNN, aCLT, aCBR, aCJM, aCWM, aCJ, aCW, aCG, aCTU⟩) [] := ⟨_, dfn_of G41 b41, PySem.W.mg_of X G a41, k41⟩
  have G42 := ok__law_kind (Pg := l.prog) (w := w) (base := base) (A := ⟨aCGE, aCNB, aCNM, aCNC, aCNN, aCLT, aCBR, aCJM, aCWM, aCJ, aCW, aCG, aCTU⟩) F42 T
  have F__law_kind : DCal l.prog w K mg base 1 "_law_kind" (S__law_kind ⟨aCGE, aCNB, aCNM, aCNC, aCNN, aCLT, aCBR, aCJM, aCWM, aCJ, aCW, aCG, aCTU⟩) [] := ⟨_, dfn_of G42 b42, PySem.W.mg_of X G a42, k42⟩
  have G43 := ok__law_text (Pg := l.prog) (w := w) (base := base) (A := ⟨aCGE, aCNB, aCNM, aCNC, aCNN, aCLT, aCBR, aCJM, aCWM, aCJ, aCW, aCG, aCTU⟩) F43 T
  have F__law_text : DCal l.prog w K mg base 1 "_law_text" (S__law_text ⟨aCGE, aCNB, aCNM, aCNC, aCNN, aCLT, aCBR, aCJM, aCWM, aCJ, aCW, aCG, aCTU⟩) [] := ⟨_, dfn_of G43 b43, PySem.W.mg_of X G a43, k43⟩
  have G44 := ok__law_answer (Pg := l.prog) (w := w) (base := base) (A := ⟨aCGE, aCNB, aCNM, aCNC, aCNN, aCLT, aCBR, aCJM, aCWM, aCJ, aCW, aCG, aCTU⟩) F44 T F__law_text F__law_kind M_Gate_names M_Gate_kept M_Gate_ask M_Gate_visit
  have F__law_answer : DCal l.prog w K mg base 8 "_law_answer" (S__law_answer ⟨aCGE, aCNB, aCNM, aCNC, aCNN, aCLT, aCBR, aCJM, aCWM, aCJ, aCW, aCG, aCTU⟩) [] := ⟨_, dfn_of G44 b44, PySem.W.mg_of X G a44, k44⟩
  have G45 := ok__law_spread (Pg := l.prog) (w := w) (base := base) (A := ⟨aCGE, aCNB, aCNM, aCNC, aCNN, aCLT, aCBR, aCJM, aCWM, aCJ, aCW, aCG, aCTU⟩) F45 T
  have F__law_spread : DCal l.prog w K mg base 1 "_law_spread" (S__law_spread ⟨aCGE, aCNB, aCNM, aCNC, aCNN, aCLT, aCBR, aCJM, aCWM, aCJ, aCW, aCG, aCTU⟩) [] := ⟨_, dfn_of G45 b45, PySem.W.mg_of X G a45, k45⟩
  have G46 := ok__law_row (Pg := l.prog) (w := w) (base := base) (A := ⟨aCGE, aCNB, aCNM, aCNC, aCNN, aCLT, aCBR, aCJM, aCWM, aCJ, aCW, aCG, aCTU⟩) F46 T F__law_cost
  have F__law_row : DCal l.prog w K mg base 2 "_law_row" (S__law_row ⟨aCGE, aCNB, aCNM, aCNC, aCNN, aCLT, aCBR, aCJM, aCWM, aCJ, aCW, aCG, aCTU⟩) [] := ⟨_, dfn_of G46 b46, PySem.W.mg_of X G a46, k46⟩
  exact ok_law F47 T F__law_scale F_Gate F_play F__law_cell F__law_bound F__law_row F__law_made F__law_spread F__law_answer F__law_gap
theorem walk {l : PySem.W.OpenLaw} {q : Program} {loose : List Str} {XP : (Str → Option Value) → Heap → Prop} {YP : World → Heap → Prop} {d : DefRec} {K : Params → PySem.W.Frag} (hn : l.most = some 63) (hdf : d.params.defaults = [])
    (hY : ∀ (w : World) (h : Heap), YP w h → (K w.params).In h)
    (F : ∀ (w : World) (mg : Str → Option Value) (fa : Addr) (h : Heap), (K w.params).In h → h.Ns mainGlobals mg → mg d.name = some (.ref fa) →
      ∃ fd : FuncData, (∀ (s : Shared) (u : Value), BindsTo s fd ⟨[u], []⟩ [("_law_script", u)]) ∧ ∀ base : Heap, (K w.params).In base → base.Ns mainGlobals mg → FnOk l.prog w (K w.params) mg base (L2.CX l.prog w) 11 fa fd ["_law_script"] (toSp (K w.params) DL.spLaw)) :
    PySem.W.WalkO q loose XP YP l.row.toRowW d [] (fun f vs => PySem.call f vs) :=
  L2.walk_of (n := 63) (k := 11) (x := "_law_script") (CX := fun w => L2.CX l.prog w) (sp := fun w => toSp (K w.params) DL.spLaw) hn (by decide) hdf ⟨rfl, by decide, by decide⟩ hY F (fun _ _ a ns hl _ hS => law_sp hl hS) fun w H s e s' h => law_CX H s e s' h
end TSL

open PySem PySem.W PyProof.Rows in
set_option maxRecDepth 100000 in
set_option maxHeartbeats 0 in
theorem PySem.Challenge.cw_turnstile_k12_whole_rows_played_holds : PySem.Challenge.rw_turnstile_k12_whole_rows_played.Holds := by
  w_on; o_law; k_head; (case hw => w_witness2)
  k_fill
  refine TSL.walk (l := PySem.Challenge.rw_turnstile_k12_whole_rows_played) rfl rfl (fun w h Y => PySem.W.kIn_of Y) ?F
  case F =>
    intro w mg fa h KX G hmg
    refine' TSL.all_mk KX G hmg ?n_GateError ?n_NoBound ?n_NoMoment ?n_NoCost ?n_NoName ?n_Late ?n_BadRow ?n_JarMeter ?n_WindowMeter ?n_Jar ?n_Window ?n_Gate ?n_Turns ?a0_JarMeter ?i0 ?l0 ?c0 ?k0 ?a1_JarMeter ?i1 ?l1 ?c1 ?k1 ?a2_JarMeter ?i2 ?l2 ?c2 ?k2 ?a3_JarMeter ?i3 ?l3 ?c3 ?k3 ?a4_JarMeter ?i4 ?l4 ?c4 ?k4 ?a5_WindowMeter ?i5 ?l5 ?c5 ?k5 ?a6_WindowMeter ?i6 ?l6 ?c6 ?k6 ?a7_WindowMeter ?i7 ?l7 ?c7 ?k7 ?a8_WindowMeter ?i8 ?l8 ?c8 ?k8 ?a9 ?l9 ?c9 ?k9 ?a10_Jar ?i10 ?l10 ?c10 ?k10 ?a11_Jar ?i11 ?l11 ?c11 ?k11 ?a12_Window ?i12 ?l12 ?c12 ?k12 ?a13_Window ?i13 ?l13 ?c13 ?k13 ?a14 ?l14 ?c14 ?k14 ?a15 ?l15 ?c15 ?k15 ?a16 ?l16 ?c16 ?k16 ?a17 ?l17 ?c17 ?k17 ?a18 ?l18 ?c18 ?k18 ?a19 ?l19 ?c19 ?k19 ?a20_Gate ?i20 ?l20 ?lT20 ?c20 ?k20 ?a21_Gate ?i21 ?l21 ?c21 ?k21 ?a22_Gate ?i22 ?l22 ?c22 ?k22 ?a23_Gate ?i23 ?l23 ?c23 ?k23 ?a24_Gate ?i24 ?l24 ?c24 ?k24 ?a25_Gate ?i25 ?l25 ?c25 ?k25 ?a26 ?l26 ?c26 ?k26 ?a27 ?l27 ?c27 ?k27 ?a28 ?l28 ?c28 ?k28 ?a29 ?l29 ?c29 ?k29 ?a30_Turns ?i30 ?l30 ?c30 ?k30 ?a31_Turns ?i31 ?l31 ?c31 ?k31 ?a32_Turns ?i32 ?l32 ?c32 ?k32 ?a33_Turns ?i33 ?l33 ?c33 ?k33 ?a34_Turns ?i34 ?l34 ?c34 ?k34 ?a35 ?l35 ?c35 ?k35 ?a36 ?l36 ?c36 ?k36 ?a37 ?l37 ?c37 ?k37 ?a38 ?l38 ?c38 ?k38 ?a39 ?l39 ?c39 ?k39 ?a40 ?l40 ?c40 ?k40 ?a41 ?l41 ?c41 ?k41 ?a42 ?l42 ?c42 ?k42 ?a43 ?l43 ?c43 ?k43 ?a44 ?l44 ?c44 ?k44 ?a45 ?l45 ?c45 ?k45 ?a46 ?l46 ?c46 ?k46 ?a47 ?l47 ?c47 ?k47 ?mk_JarMeter ?kc_JarMeter ?mk_WindowMeter ?kc_WindowMeter ?mk_Jar ?kc_Jar ?mk_Window ?kc_Window ?mk_Gate ?kc_Gate ?mk_Turns ?kc_Turns ?pg_JarMeter ?hd_JarMeter ?po_JarMeter ?sa_JarMeter ?na_JarMeter_most ?na_JarMeter_flow ?na_JarMeter_level ?na_JarMeter_last ?pg_WindowMeter ?hd_WindowMeter ?po_WindowMeter ?sa_WindowMeter ?na_WindowMeter_most ?na_WindowMeter_span ?na_WindowMeter_rows ?pg_Jar ?hd_Jar ?po_Jar ?sa_Jar ?na_Jar_size ?na_Jar_flow ?pg_Window ?hd_Window ?po_Window ?sa_Window ?na_Window_most ?na_Window_span ?pg_Gate ?hd_Gate ?po_Gate ?sa_Gate ?na_Gate_own ?na_Gate_common ?na_Gate_people ?na_Gate_latest ?pg_Turns ?hd_Turns ?po_Turns ?sa_Turns ?na_Turns_limits ?na_Turns_gate ?ic_Jar ?im_Jar ?ic_Window ?im_Window ?isn ?ist ?xq_GateError ?xk_GateError ?xb_GateError ?xt_GateError ?eg_GateError ?ek_GateError ?ed_GateError ?ea_GateError ?em_GateError ?xq_NoBound ?xk_NoBound ?xb_NoBound ?xt_NoBound ?eg_NoBound ?ek_NoBound ?ed_NoBound ?ea_NoBound ?em_NoBound ?xq_NoMoment ?xk_NoMoment ?xb_NoMoment ?xt_NoMoment ?eg_NoMoment ?ek_NoMoment ?ed_NoMoment ?ea_NoMoment ?em_NoMoment ?xq_NoCost ?xk_NoCost ?xb_NoCost ?xt_NoCost ?eg_NoCost ?ek_NoCost ?ed_NoCost ?ea_NoCost ?em_NoCost ?xq_NoName ?xk_NoName ?xb_NoName ?xt_NoName ?eg_NoName ?ek_NoName ?ed_NoName ?ea_NoName ?em_NoName ?xq_Late ?xk_Late ?xb_Late ?xt_Late ?eg_Late ?ek_Late ?ed_Late ?ea_Late ?em_Late ?xq_BadRow ?xk_BadRow ?xb_BadRow ?xt_BadRow ?eg_BadRow ?ek_BadRow ?ed_BadRow ?ea_BadRow ?em_BadRow ?sub_NoBound_GateError ?sub_NoMoment_GateError ?sub_NoCost_GateError ?sub_NoName_GateError ?sub_Late_GateError ?sub_BadRow_GateError ?kit_Jar_Jar ?kit_Window_Jar ?kit_Window_Window ?kit_NoneType_Jar ?kit_NoneType_Window ?kit_int_Jar ?kit_int_Window ?kit_bool_Jar ?kit_bool_Window ?kit_str_Jar ?kit_str_Window ?kit_list_Jar ?kit_list_Window ?kit_tuple_Jar ?kit_tuple_Window ?kit_NoBound_NoBound ?kit_NoBound_NoMoment ?kit_NoBound_NoCost ?kit_NoBound_NoName ?kit_NoBound_Late ?kit_NoBound_BadRow ?kit_NoMoment_NoBound ?kit_NoMoment_NoMoment ?kit_NoMoment_NoCost ?kit_NoMoment_NoName ?kit_NoMoment_Late ?kit_NoMoment_BadRow ?kit_NoCost_NoBound ?kit_NoCost_NoMoment ?kit_NoCost_NoCost ?kit_NoCost_NoName ?kit_NoCost_Late ?kit_NoCost_BadRow ?kit_NoName_NoBound ?kit_NoName_NoMoment ?kit_NoName_NoCost ?kit_NoName_NoName ?kit_NoName_Late ?kit_NoName_BadRow ?kit_Late_NoBound ?kit_Late_NoMoment ?kit_Late_NoCost ?kit_Late_NoName ?kit_Late_Late ?kit_Late_BadRow ?kit_BadRow_NoBound ?kit_BadRow_NoMoment ?kit_BadRow_NoCost ?kit_BadRow_NoName ?kit_BadRow_Late ?kit_BadRow_BadRow ?m_len ?m_isinstance ?m_int ?m_bool ?m_tuple ?m_list ?m_range ?m_min ?m_max ?m_sum ?m_str ?m_all ?m_sorted ?m_ValueError ?m_enumerate ?g_MOST_ROOM ?g_MOST_FLOW ?g_MOST_SPAN ?g_MOST_MOMENT ?g_MOST_COST ?g_MOST_LETTERS ?g_LETTERS ?g_MOST_BOUNDS_gate ?g_FIGURES ?g_MOST_FIGURES ?g_MOST_BOUNDS_rows
    (case n_GateError => k_is)
    (case n_NoBound => k_is)
    (case n_NoMoment => k_is)
    (case n_NoCost => k_is)
    (case n_NoName => k_is)
    (case n_Late => k_is)
    (case n_BadRow => k_is)
    (case n_JarMeter => k_is)
    (case n_WindowMeter => k_is)
    (case n_Jar => k_is)
    (case n_Window => k_is)
    (case n_Gate => k_is)
    (case n_Turns => k_is)
    (case a0_JarMeter => k_is)
    (case i0 => k_is)
    (case l0 => k_is)
    (case c0 => k_is)
    (case k0 => k_is)
    (case a1_JarMeter => k_is)
    (case i1 => k_is)
    (case l1 => k_is)
    (case c1 => k_is)
    (case k1 => k_is)
    (case a2_JarMeter => k_is)
    (case i2 => k_is)
    (case l2 => k_is)
    (case c2 => k_is)
    (case k2 => k_is)
    (case a3_JarMeter => k_is)
    (case i3 => k_is)
    (case l3 => k_is)
    (case c3 => k_is)
    (case k3 => k_is)
    (case a4_JarMeter => k_is)
    (case i4 => k_is)
    (case l4 => k_is)
    (case c4 => k_is)
    (case k4 => k_is)
    (case a5_WindowMeter => k_is)
    (case i5 => k_is)
    (case l5 => k_is)
    (case c5 => k_is)
    (case k5 => k_is)
    (case a6_WindowMeter => k_is)
    (case i6 => k_is)
    (case l6 => k_is)
    (case c6 => k_is)
    (case k6 => k_is)
    (case a7_WindowMeter => k_is)
    (case i7 => k_is)
    (case l7 => k_is)
    (case c7 => k_is)
    (case k7 => k_is)
    (case a8_WindowMeter => k_is)
    (case i8 => k_is)
    (case l8 => k_is)
    (case c8 => k_is)
    (case k8 => k_is)
    (case a9 => k_is)
    (case l9 => k_is)
    (case c9 => k_is)
    (case k9 => k_is)
    (case a10_Jar => k_is)
    (case i10 => k_is)
    (case l10 => k_is)
    (case c10 => k_is)
    (case k10 => k_is)
    (case a11_Jar => k_is)
    (case i11 => k_is)
    (case l11 => k_is)
    (case c11 => k_is)
    (case k11 => k_is)
    (case a12_Window => k_is)
    (case i12 => k_is)
    (case l12 => k_is)
    (case c12 => k_is)
    (case k12 => k_is)
    (case a13_Window => k_is)
    (case i13 => k_is)
    (case l13 => k_is)
    (case c13 => k_is)
    (case k13 => k_is)
    (case a14 => k_is)
    (case l14 => k_is)
    (case c14 => k_is)
    (case k14 => k_is)
    (case a15 => k_is)
    (case l15 => k_is)
    (case c15 => k_is)
    (case k15 => k_is)
    (case a16 => k_is)
    (case l16 => k_is)
    (case c16 => k_is)
    (case k16 => k_is)
    (case a17 => k_is)
    (case l17 => k_is)
    (case c17 => k_is)
    (case k17 => k_is)
    (case a18 => k_is)
    (case l18 => k_is)
    (case c18 => k_is)
    (case k18 => k_is)
    (case a19 => k_is)
    (case l19 => k_is)
    (case c19 => k_is)
    (case k19 => k_is)
    (case a20_Gate => k_is)
    (case i20 => k_is)
    (case l20 => k_is)
    (case lT20 => k_is)
    (case c20 => k_is)
    (case k20 => k_is)
    (case a21_Gate => k_is)
    (case i21 => k_is)
    (case l21 => k_is)
    (case c21 => k_is)
    (case k21 => k_is)
    (case a22_Gate => k_is)
    (case i22 => k_is)
    (case l22 => k_is)
    (case c22 => k_is)
    (case k22 => k_is)
    (case a23_Gate => k_is)
    (case i23 => k_is)
    (case l23 => k_is)
    (case c23 => k_is)
    (case k23 => k_is)
    (case a24_Gate => k_is)
    (case i24 => k_is)
    (case l24 => k_is)
    (case c24 => k_is)
    (case k24 => k_is)
    (case a25_Gate => k_is)
    (case i25 => k_is)
    (case l25 => k_is)
    (case c25 => k_is)
    (case k25 => k_is)
    (case a26 => k_is)
    (case l26 => k_is)
    (case c26 => k_is)
    (case k26 => k_is)
    (case a27 => k_is)
    (case l27 => k_is)
    (case c27 => k_is)
    (case k27 => k_is)
    (case a28 => k_is)
    (case l28 => k_is)
    (case c28 => k_is)
    (case k28 => k_is)
    (case a29 => k_is)
    (case l29 => k_is)
    (case c29 => k_is)
    (case k29 => k_is)
    (case a30_Turns => k_is)
    (case i30 => k_is)
    (case l30 => k_is)
    (case c30 => k_is)
    (case k30 => k_is)
    (case a31_Turns => k_is)
    (case i31 => k_is)
    (case l31 => k_is)
    (case c31 => k_is)
    (case k31 => k_is)
    (case a32_Turns => k_is)
    (case i32 => k_is)
    (case l32 => k_is)
    (case c32 => k_is)
    (case k32 => k_is)
    (case a33_Turns => k_is)
    (case i33 => k_is)
    (case l33 => k_is)
    (case c33 => k_is)
    (case k33 => k_is)
    (case a34_Turns => k_is)
    (case i34 => k_is)
    (case l34 => k_is)
    (case c34 => k_is)
    (case k34 => k_is)
    (case a35 => k_is)
    (case l35 => k_is)
    (case c35 => k_is)
    (case k35 => k_is)
    (case a36 => k_is)
    (case l36 => k_is)
    (case c36 => k_is)
    (case k36 => k_is)
    (case a37 => k_is)
    (case l37 => k_is)
    (case c37 => k_is)
    (case k37 => k_is)
    (case a38 => k_is)
    (case l38 => k_is)
    (case c38 => k_is)
    (case k38 => k_is)
    (case a39 => k_is)
    (case l39 => k_is)
    (case c39 => k_is)
    (case k39 => k_is)
    (case a40 => k_is)
    (case l40 => k_is)
    (case c40 => k_is)
    (case k40 => k_is)
    (case a41 => k_is)
    (case l41 => k_is)
    (case c41 => k_is)
    (case k41 => k_is)
    (case a42 => k_is)
    (case l42 => k_is)
    (case c42 => k_is)
    (case k42 => k_is)
    (case a43 => k_is)
    (case l43 => k_is)
    (case c43 => k_is)
    (case k43 => k_is)
    (case a44 => k_is)
    (case l44 => k_is)
    (case c44 => k_is)
    (case k44 => k_is)
    (case a45 => k_is)
    (case l45 => k_is)
    (case c45 => k_is)
    (case k45 => k_is)
    (case a46 => k_is)
    (case l46 => k_is)
    (case c46 => k_is)
    (case k46 => k_is)
    (case a47 => k_is)
    (case l47 => k_is)
    (case c47 => k_is)
    (case k47 => k_is)
    (case mk_JarMeter => k_is)
    (case kc_JarMeter => k_is)
    (case mk_WindowMeter => k_is)
    (case kc_WindowMeter => k_is)
    (case mk_Jar => k_is)
    (case kc_Jar => k_is)
    (case mk_Window => k_is)
    (case kc_Window => k_is)
    (case mk_Gate => k_is)
    (case kc_Gate => k_is)
    (case mk_Turns => k_is)
    (case kc_Turns => k_is)
    (case pg_JarMeter => k_is)
    (case hd_JarMeter => k_is)
    (case po_JarMeter => k_is)
    (case sa_JarMeter => k_is)
    (case na_JarMeter_most => k_is)
    (case na_JarMeter_flow => k_is)
    (case na_JarMeter_level => k_is)
    (case na_JarMeter_last => k_is)
    (case pg_WindowMeter => k_is)
    (case hd_WindowMeter => k_is)
    (case po_WindowMeter => k_is)
    (case sa_WindowMeter => k_is)
    (case na_WindowMeter_most => k_is)
    (case na_WindowMeter_span => k_is)
    (case na_WindowMeter_rows => k_is)
    (case pg_Jar => k_is)
    (case hd_Jar => k_is)
    (case po_Jar => k_is)
    (case sa_Jar => k_is)
    (case na_Jar_size => k_is)
    (case na_Jar_flow => k_is)
    (case pg_Window => k_is)
    (case hd_Window => k_is)
    (case po_Window => k_is)
    (case sa_Window => k_is)
    (case na_Window_most => k_is)
    (case na_Window_span => k_is)
    (case pg_Gate => k_is)
    (case hd_Gate => k_is)
    (case po_Gate => k_is)
    (case sa_Gate => k_is)
    (case na_Gate_own => k_is)
    (case na_Gate_common => k_is)
    (case na_Gate_people => k_is)
    (case na_Gate_latest => k_is)
    (case pg_Turns => k_is)
    (case hd_Turns => k_is)
    (case po_Turns => k_is)
    (case sa_Turns => k_is)
    (case na_Turns_limits => k_is)
    (case na_Turns_gate => k_is)
    (case ic_Jar => k_is)
    (case im_Jar => k_is)
    (case ic_Window => k_is)
    (case im_Window => k_is)
    (case isn => k_is)
    (case ist => k_is)
    (case xq_GateError => k_exc)
    (case xk_GateError => k_is)
    (case xb_GateError => k_is)
    (case xt_GateError => k_is)
    (case eg_GateError => k_is)
    (case ek_GateError => k_is)
    (case ed_GateError => k_is)
    (case ea_GateError => k_is)
    (case em_GateError => k_is)
    (case xq_NoBound => k_exc)
    (case xk_NoBound => k_is)
    (case xb_NoBound => k_is)
    (case xt_NoBound => k_is)
    (case eg_NoBound => k_is)
    (case ek_NoBound => k_is)
    (case ed_NoBound => k_is)
    (case ea_NoBound => k_is)
    (case em_NoBound => k_is)
    (case xq_NoMoment => k_exc)
    (case xk_NoMoment => k_is)
    (case xb_NoMoment => k_is)
    (case xt_NoMoment => k_is)
    (case eg_NoMoment => k_is)
    (case ek_NoMoment => k_is)
    (case ed_NoMoment => k_is)
    (case ea_NoMoment => k_is)
    (case em_NoMoment => k_is)
    (case xq_NoCost => k_exc)
    (case xk_NoCost => k_is)
    (case xb_NoCost => k_is)
    (case xt_NoCost => k_is)
    (case eg_NoCost => k_is)
    (case ek_NoCost => k_is)
    (case ed_NoCost => k_is)
    (case ea_NoCost => k_is)
    (case em_NoCost => k_is)
    (case xq_NoName => k_exc)
    (case xk_NoName => k_is)
    (case xb_NoName => k_is)
    (case xt_NoName => k_is)
    (case eg_NoName => k_is)
    (case ek_NoName => k_is)
    (case ed_NoName => k_is)
    (case ea_NoName => k_is)
    (case em_NoName => k_is)
    (case xq_Late => k_exc)
    (case xk_Late => k_is)
    (case xb_Late => k_is)
    (case xt_Late => k_is)
    (case eg_Late => k_is)
    (case ek_Late => k_is)
    (case ed_Late => k_is)
    (case ea_Late => k_is)
    (case em_Late => k_is)
    (case xq_BadRow => k_exc)
    (case xk_BadRow => k_is)
    (case xb_BadRow => k_is)
    (case xt_BadRow => k_is)
    (case eg_BadRow => k_is)
    (case ek_BadRow => k_is)
    (case ed_BadRow => k_is)
    (case ea_BadRow => k_is)
    (case em_BadRow => k_is)
    (case sub_NoBound_GateError => k_is)
    (case sub_NoMoment_GateError => k_is)
    (case sub_NoCost_GateError => k_is)
    (case sub_NoName_GateError => k_is)
    (case sub_Late_GateError => k_is)
    (case sub_BadRow_GateError => k_is)
    (case kit_Jar_Jar => kit_is)
    (case kit_Window_Jar => kit_is)
    (case kit_Window_Window => kit_is)
    (case kit_NoneType_Jar => kit_is)
    (case kit_NoneType_Window => kit_is)
    (case kit_int_Jar => kit_is)
    (case kit_int_Window => kit_is)
    (case kit_bool_Jar => kit_is)
    (case kit_bool_Window => kit_is)
    (case kit_str_Jar => kit_is)
    (case kit_str_Window => kit_is)
    (case kit_list_Jar => kit_is)
    (case kit_list_Window => kit_is)
    (case kit_tuple_Jar => kit_is)
    (case kit_tuple_Window => kit_is)
    (case kit_NoBound_NoBound => kit_is)
    (case kit_NoBound_NoMoment => kit_is)
    (case kit_NoBound_NoCost => kit_is)
    (case kit_NoBound_NoName => kit_is)
    (case kit_NoBound_Late => kit_is)
    (case kit_NoBound_BadRow => kit_is)
    (case kit_NoMoment_NoBound => kit_is)
    (case kit_NoMoment_NoMoment => kit_is)
    (case kit_NoMoment_NoCost => kit_is)
    (case kit_NoMoment_NoName => kit_is)
    (case kit_NoMoment_Late => kit_is)
    (case kit_NoMoment_BadRow => kit_is)
    (case kit_NoCost_NoBound => kit_is)
    (case kit_NoCost_NoMoment => kit_is)
    (case kit_NoCost_NoCost => kit_is)
    (case kit_NoCost_NoName => kit_is)
    (case kit_NoCost_Late => kit_is)
    (case kit_NoCost_BadRow => kit_is)
    (case kit_NoName_NoBound => kit_is)
    (case kit_NoName_NoMoment => kit_is)
    (case kit_NoName_NoCost => kit_is)
    (case kit_NoName_NoName => kit_is)
    (case kit_NoName_Late => kit_is)
    (case kit_NoName_BadRow => kit_is)
    (case kit_Late_NoBound => kit_is)
    (case kit_Late_NoMoment => kit_is)
    (case kit_Late_NoCost => kit_is)
    (case kit_Late_NoName => kit_is)
    (case kit_Late_Late => kit_is)
    (case kit_Late_BadRow => kit_is)
    (case kit_BadRow_NoBound => kit_is)
    (case kit_BadRow_NoMoment => kit_is)
    (case kit_BadRow_NoCost => kit_is)
    (case kit_BadRow_NoName => kit_is)
    (case kit_BadRow_Late => kit_is)
    (case kit_BadRow_BadRow => kit_is)
    (case m_len => k_is)
    (case m_isinstance => k_is)
    (case m_int => k_is)
    (case m_bool => k_is)
    (case m_tuple => k_is)
    (case m_list => k_is)
    (case m_range => k_is)
    (case m_min => k_is)
    (case m_max => k_is)
    (case m_sum => k_is)
    (case m_str => k_is)
    (case m_all => k_is)
    (case m_sorted => k_is)
    (case m_ValueError => k_is)
    (case m_enumerate => k_is)
    (case g_MOST_ROOM => k_is)
    (case g_MOST_FLOW => k_is)
    (case g_MOST_SPAN => k_is)
    (case g_MOST_MOMENT => k_is)
    (case g_MOST_COST => k_is)
    (case g_MOST_LETTERS => k_is)
    (case g_LETTERS => k_is)
    (case g_MOST_BOUNDS_gate => k_is)
    (case g_FIGURES => k_is)
    (case g_MOST_FIGURES => k_is)
    (case g_MOST_BOUNDS_rows => k_is)

