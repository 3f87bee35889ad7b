import PyProof.Rows.All
import Wide.All
import OpenK.AllK
import Wide.FinOn
import HandS.ForMost
import HandS.ForExc
import HandS.IsInst
import HandS.ExcIs
import HandS.Deep
import HandS.Flow
import HandS.Conv
import HandS.More
import HandS.CallSlots
import HandS.ExcValue
import HandS.TupAny
import HandS.Iter
import KE.KExcIs
import PySem.Challenge.RW_turnstile_k02_bounds_made
set_option Elab.async false
set_option linter.all false
set_option maxRecDepth 100000
set_option maxHeartbeats 4000000
/-! ## The data layer: values as data (Dv), a store of mutable objects (M), what stands for what -/
namespace DL
open PySem PySem.Spec L2

inductive Dv where
  | non | bl (b : Bool) | int (i : Int) | str (x : Str) | ty (n : String) | obj (a : Addr)
  | tup (xs : List Dv) | lst (xs : List Dv) | fro (xs : List Dv)
  | ins (C : Addr) (fs : List (Str × Dv)) | exc (C : Addr) (fs : List (Str × Dv))
/-- a mutable object: an instance, a list, a dict; a dict that is walked -/
inductive MO where
  | ins (C : Addr) (fs : List (Str × Dv)) | lst (xs : List Dv) | dic (kvs : List (Key × Dv)) | fdc (kvs : List (Key × Dv))
abbrev M := Addr → Option MO
abbrev Kf := PySem.W.Frag
def updM (μ : M) (a : Addr) (o : MO) : M := fun b => if b = a then some o else μ b
def delM (μ : M) (a : Addr) : M := fun b => if b = a then none else μ b
theorem updM_same {μ : M} {a : Addr} {o : MO} : updM μ a o a = some o := by unfold updM; rw [if_pos rfl]
theorem updM_ne {μ : M} {a b : Addr} {o : MO} (h : b ≠ a) : updM μ a o b = μ b := by unfold updM; rw [if_neg h]
theorem updM_updM {μ : M} {a : Addr} {o u : MO} : updM (updM μ a o) a u = updM μ a u := by funext b; unfold updM; split <;> rfl
theorem delM_same {μ : M} {a : Addr} : delM μ a a = none := by unfold delM; rw [if_pos rfl]
theorem delM_ne {μ : M} {a b : Addr} (h : b ≠ a) : delM μ a b = μ b := by unfold delM; rw [if_neg h]
theorem delM_updM {μ : M} {a : Addr} {o : MO} (h : μ a = none) : delM (updM μ a o) a = μ := by
  funext b
  by_cases e : b = a
  · rw [e, delM_same, h]
  · rw [delM_ne e, updM_ne e]
theorem updM_comm {μ : M} {a b : Addr} {o u : MO} (h : a ≠ b) : updM (updM μ a o) b u = updM (updM μ b u) a o := by
  funext c
  by_cases e : c = a
  · subst e; rw [updM_ne h, updM_same, updM_same]
  · by_cases f : c = b
    · subst f; rw [updM_same, updM_ne e, updM_same]
    · rw [updM_ne f, updM_ne e, updM_ne e, updM_ne f]
theorem ne_ofM {μ : M} {a b : Addr} {o : MO} (h : μ a = some o) (h' : μ b = none) : a ≠ b := by intro e; subst e; rw [h] at h'; cases h'

/-- an exception object of the class cls (own dict d) at a -/
def ExD (cls : Value) (d : Option Addr) (a : Addr) : HO := .ext fun h => ∃ (oe : Obj) (vs : Array Value), h.get? a = some oe ∧ Zc cls d oe ∧ oe.data = .fields vs
/-- a list of the written part -/
def KLst (K : Kf) (a : Addr) (xs : List V) : Prop := ∃ (o : Obj) (its : Array Value) (n : Nat), K.lookup a = some o ∧ o.cls = .type "list" ∧ o.dict = none ∧ o.data = .seq its n ∧ its.size ≤ sizeLine ∧ Vals xs its.toList
mutual
inductive DRep (K : Kf) (μ : M) (H : Hp) : V → Dv → Prop where
  | non : DRep K μ H .non .non
  | bl (b : Bool) : DRep K μ H (.bl b) (.bl b)
  | int (i : Int) : DRep K μ H (.int i) (.int i)
  | str (x : Str) : DRep K μ H (.str x) (.str x)
  | ty (n : String) : DRep K μ H (.ty n) (.ty n)
  | obj (a : Addr) : DRep K μ H (.ref a) (.obj a)
  | tup {a : Addr} {vs : List V} {ds : List Dv} (h : H a = some (.tup vs)) (n : μ a = none) (r : DReps K μ H vs ds) : DRep K μ H (.ref a) (.tup ds)
  | lst {a : Addr} {vs : List V} {ds : List Dv} (h : H a = some (.lst vs)) (n : μ a = none) (r : DReps K μ H vs ds) : DRep K μ H (.ref a) (.lst ds)
  | fro {a : Addr} {vs : List V} {ds : List Dv} (h : Rd H a (.lst vs)) (n : μ a = none) (r : DReps K μ H vs ds) : DRep K μ H (.ref a) (.fro ds)
  | frk {a : Addr} {vs : List V} {ds : List Dv} (h : KLst K a vs) (r : DReps K μ H vs ds) : DRep K μ H (.ref a) (.fro ds)
  | ins {a C dx : Addr} {vs : List (Str × V)} {fs : List (Str × Dv)} (h : H a = some (.ins C dx vs)) (n : μ a = none) (r : DFlds K μ H vs fs) : DRep K μ H (.ref a) (.ins C fs)
  | exc0 {a C : Addr} (h : H a = some (ExD (.ref C) none a)) (n : μ a = none) : DRep K μ H (.ref a) (.exc C [])
  | exc1 {a C dd : Addr} {vs : List (Str × V)} {fs : List (Str × Dv)} (h : H a = some (ExD (.ref C) (some dd) a)) (n : μ a = none) (h2 : H dd = some (.xd vs)) (n2 : μ dd = none) (r : DFlds K μ H vs fs) : DRep K μ H (.ref a) (.exc C fs)
inductive DReps (K : Kf) (μ : M) (H : Hp) : List V → List Dv → Prop where
  | nil : DReps K μ H [] []
  | cons {v : V} {d : Dv} {vs : List V} {ds : List Dv} (h : DRep K μ H v d) (t : DReps K μ H vs ds) : DReps K μ H (v :: vs) (d :: ds)
inductive DFlds (K : Kf) (μ : M) (H : Hp) : List (Str × V) → List (Str × Dv) → Prop where
  | nil : DFlds K μ H [] []
  | cons {f : Str} {v : V} {d : Dv} {vs : List (Str × V)} {ds : List (Str × Dv)} (h : DRep K μ H v d) (t : DFlds K μ H vs ds) : DFlds K μ H ((f, v) :: vs) ((f, d) :: ds)
end
/-- a dict's pairs -/
inductive DKvs (K : Kf) (μ : M) (H : Hp) : List (Key × V) → List (Key × Dv) → Prop where
  | nil : DKvs K μ H [] []
  | cons {f : Key} {v : V} {d : Dv} {vs : List (Key × V)} {ds : List (Key × Dv)} (h : DRep K μ H v d) (t : DKvs K μ H vs ds) : DKvs K μ H ((f, v) :: vs) ((f, d) :: ds)

/-- what is not mutable stands -/
def Step (μ : M) (H : Hp) (μ' : M) (H' : Hp) : Prop := ∀ a o, H a = some o → μ a = none → H' a = some o ∧ μ' a = none
theorem Step.refl (μ : M) (H : Hp) : Step μ H μ H := fun _ _ h n => ⟨h, n⟩
theorem Step.trans {μ μ1 μ2 : M} {H H1 H2 : Hp} (s : Step μ H μ1 H1) (t : Step μ1 H1 μ2 H2) : Step μ H μ2 H2 := fun a o h n =>
  let ⟨h1, n1⟩ := s a o h n
  t a o h1 n1
section
variable {K : Kf} {μ μ' : M} {H H' : Hp}
theorem rdStep (s : Step μ H μ' H') {a : Addr} {u : HO} (n : μ a = none) (h : Rd H a u) : Rd H' a u ∧ μ' a = none := by
  rcases h with h | ⟨o, h⟩
  · exact ⟨.inl (s _ _ h n).1, (s _ _ h n).2⟩
  · exact ⟨.inr ⟨o, (s _ _ h n).1⟩, (s _ _ h n).2⟩
mutual
theorem DRep.step (s : Step μ H μ' H') : ∀ {v : V} {d : Dv}, DRep K μ H v d → DRep K μ' H' v d
  | _, _, .non => .non
  | _, _, .bl b => .bl b
  | _, _, .int b => .int b
  | _, _, .str b => .str b
  | _, _, .ty b => .ty b
  | _, _, .obj b => .obj b
  | _, _, .tup h n r => .tup (s _ _ h n).1 (s _ _ h n).2 (DReps.step s r)
  | _, _, .lst h n r => .lst (s _ _ h n).1 (s _ _ h n).2 (DReps.step s r)
  | _, _, .fro h n r => .fro (rdStep s n h).1 (rdStep s n h).2 (DReps.step s r)
  | _, _, .frk h r => .frk h (DReps.step s r)
  | _, _, .ins h n r => .ins (s _ _ h n).1 (s _ _ h n).2 (DFlds.step s r)
  | _, _, .exc0 h n => .exc0 (s _ _ h n).1 (s _ _ h n).2
  | _, _, .exc1 h n h2 n2 r => .exc1 (s _ _ h n).1 (s _ _ h n).2 (s _ _ h2 n2).1 (s _ _ h2 n2).2 (DFlds.step s r)
theorem DReps.step (s : Step μ H μ' H') : ∀ {v : List V} {d : List Dv}, DReps K μ H v d → DReps K μ' H' v d
  | _, _, .nil => .nil
  | _, _, .cons h t => .cons (DRep.step s h) (DReps.step s t)
theorem DFlds.step (s : Step μ H μ' H') : ∀ {v : List (Str × V)} {d : List (Str × Dv)}, DFlds K μ H v d → DFlds K μ' H' v d
  | _, _, .nil => .nil
  | _, _, .cons h t => .cons (DRep.step s h) (DFlds.step s t)
end
theorem DKvs.step (s : Step μ H μ' H') : ∀ {v : List (Key × V)} {d : List (Key × Dv)}, DKvs K μ H v d → DKvs K μ' H' v d
  | _, _, .nil => .nil
  | _, _, .cons h t => .cons (DRep.step s h) (DKvs.step s t)

/-! ### lists of data -/
theorem DReps.length : ∀ {vs : List V} {ds : List Dv}, DReps K μ H vs ds → vs.length = ds.length
  | _, _, .nil => rfl
  | _, _, .cons _ t => congrArg (· + 1) t.length
theorem DReps.append : ∀ {vs ws : List V} {ds es : List Dv}, DReps K μ H vs ds → DReps K μ H ws es → DReps K μ H (vs ++ ws) (ds ++ es)
  | _, _, _, _, .nil, q => q
  | _, _, _, _, .cons h t, q => .cons h (t.append q)
theorem DReps.one {v : V} {d : Dv} (h : DRep K μ H v d) : DReps K μ H [v] [d] := .cons h .nil
theorem DReps.get : ∀ {vs : List V} {ds : List Dv} {i : Nat} {d : Dv}, DReps K μ H vs ds → ds[i]? = some d → ∃ v, vs[i]? = some v ∧ DRep K μ H v d
  | _, _, _, _, .nil, e => by simp at e
  | _, _, 0, _, .cons h _, e => by simp at e; subst e; exact ⟨_, rfl, h⟩
  | _, _, i + 1, d, .cons _ t, e => by
    obtain ⟨v, h1, h2⟩ := DReps.get (i := i) (d := d) t (by simpa using e)
    exact ⟨v, by simpa using h1, h2⟩
theorem DReps.getV : ∀ {vs : List V} {ds : List Dv} {i : Nat} {v : V}, DReps K μ H vs ds → vs[i]? = some v → ∃ d, ds[i]? = some d ∧ DRep K μ H v d
  | _, _, _, _, .nil, e => by simp at e
  | _, _, 0, _, .cons h _, e => by simp at e; subst e; exact ⟨_, rfl, h⟩
  | _, _, i + 1, d, .cons _ t, e => by
    obtain ⟨v, h1, h2⟩ := DReps.getV (i := i) (v := d) t (by simpa using e)
    exact ⟨v, by simpa using h1, h2⟩
theorem DReps.take : ∀ {vs : List V} {ds : List Dv} (n : Nat), DReps K μ H vs ds → DReps K μ H (vs.take n) (ds.take n)
  | _, _, 0, _ => .nil
  | _, _, _ + 1, .nil => .nil
  | _, _, n + 1, .cons h t => .cons h (DReps.take n t)
theorem DReps.drop : ∀ {vs : List V} {ds : List Dv} (n : Nat), DReps K μ H vs ds → DReps K μ H (vs.drop n) (ds.drop n)
  | _, _, 0, r => r
  | _, _, _ + 1, .nil => .nil
  | _, _, n + 1, .cons _ t => DReps.drop n t
theorem DReps.reverse : ∀ {vs : List V} {ds : List Dv}, DReps K μ H vs ds → DReps K μ H vs.reverse ds.reverse
  | _, _, .nil => .nil
  | _, _, .cons h t => by
    rw [List.reverse_cons, List.reverse_cons]
    exact t.reverse.append (.one h)
theorem DReps.dropLast {vs : List V} {ds : List Dv} (r : DReps K μ H vs ds) : DReps K μ H vs.dropLast ds.dropLast := by
  rw [List.dropLast_eq_take, List.dropLast_eq_take, r.length]
  exact r.take _
theorem DReps.replicate {v : V} {d : Dv} (h : DRep K μ H v d) : ∀ n, DReps K μ H (List.replicate n v) (List.replicate n d)
  | 0 => .nil
  | n + 1 => .cons h (DReps.replicate h n)
theorem DReps.ints : ∀ {vs : List V} {ns : List Int}, DReps K μ H vs (ns.map Dv.int) → vs = ns.map V.int
  | _, [], .nil => rfl
  | _, n :: ns, .cons h t => by
    cases h
    rw [t.ints]
    rfl
theorem DReps.strs : ∀ {vs : List V} {ns : List Str}, DReps K μ H vs (ns.map Dv.str) → vs = ns.map V.str
  | _, [], .nil => rfl
  | _, n :: ns, .cons h t => by
    cases h
    rw [t.strs]
    rfl
theorem DReps.bls : ∀ {vs : List V} {ns : List Bool}, DReps K μ H vs (ns.map Dv.bl) → vs = ns.map V.bl
  | _, [], .nil => rfl
  | _, n :: ns, .cons h t => by
    cases h
    rw [t.bls]
    rfl
theorem DReps.ofInts : ∀ ns : List Int, DReps K μ H (ns.map V.int) (ns.map Dv.int)
  | [] => .nil
  | _ :: ns => .cons (.int _) (DReps.ofInts ns)
theorem DReps.ofStrs : ∀ ns : List Str, DReps K μ H (ns.map V.str) (ns.map Dv.str)
  | [] => .nil
  | _ :: ns => .cons (.str _) (DReps.ofStrs ns)
theorem DReps.ofBls : ∀ ns : List Bool, DReps K μ H (ns.map V.bl) (ns.map Dv.bl)
  | [] => .nil
  | _ :: ns => .cons (.bl _) (DReps.ofBls ns)

/-! ### fields -/
def putD (f : Str) (v : Dv) : List (Str × Dv) → List (Str × Dv)
  | [] => [(f, v)]
  | (g, x) :: r => if g = f then (g, v) :: r else (g, x) :: putD f v r
theorem DFlds.length : ∀ {vs : List (Str × V)} {ds : List (Str × Dv)}, DFlds K μ H vs ds → vs.length = ds.length
  | _, _, .nil => rfl
  | _, _, .cons _ t => congrArg (· + 1) t.length
theorem DFlds.put {f : Str} {v : V} {d : Dv} (h : DRep K μ H v d) : ∀ {vs : List (Str × V)} {ds : List (Str × Dv)}, DFlds K μ H vs ds → DFlds K μ H (putF f v vs) (putD f d ds)
  | _, _, .nil => .cons h .nil
  | _, _, @DFlds.cons _ _ _ g x y vs ds hx t => by
    show DFlds K μ H (if g = f then (g, v) :: vs else (g, x) :: putF f v vs) (if g = f then (g, d) :: ds else (g, y) :: putD f d ds)
    by_cases e : g = f
    · rw [if_pos e, if_pos e]; exact .cons h t
    · rw [if_neg e, if_neg e]; exact .cons hx (t.put h)
theorem DFlds.get {f : Str} {d : Dv} : ∀ {vs : List (Str × V)} {ds : List (Str × Dv)}, DFlds K μ H vs ds → ds.lookup f = some d → ∃ v, vs.lookup f = some v ∧ DRep K μ H v d
  | _, _, .nil, e => by cases e
  | _, _, @DFlds.cons _ _ _ g x y vs ds hx t, e => by
    rw [List.lookup_cons] at e ⊢
    cases hb : f == g with
    | true =>
      rw [hb] at e
      cases e
      exact ⟨x, rfl, hx⟩
    | false =>
      rw [hb] at e
      exact t.get e
theorem DFlds.none {f : Str} : ∀ {vs : List (Str × V)} {ds : List (Str × Dv)}, DFlds K μ H vs ds → ds.lookup f = Option.none → vs.lookup f = Option.none
  | _, _, .nil, _ => rfl
  | _, _, @DFlds.cons _ _ _ g x y vs ds hx t, e => by
    rw [List.lookup_cons] at e ⊢
    cases hb : f == g with
    | true => rw [hb] at e; cases e
    | false =>
      rw [hb] at e
      exact t.none e

/-! ### the store -/
def MRep (K : Kf) (μ : M) (H : Hp) (a : Addr) : MO → Prop
  | .ins C fs => ∃ dx vs, H a = some (.ins C dx vs) ∧ DFlds K μ H vs fs
  | .lst ds => ∃ vs, H a = some (.lst vs) ∧ DReps K μ H vs ds
  | .dic kvs => ∃ vs, H a = some (.dK vs) ∧ DKvs K μ H vs kvs
  | .fdc kvs => ∃ o vs, H a = some (.frz o (.dK vs)) ∧ DKvs K μ H vs kvs
def Rep (K : Kf) (μ : M) (H : Hp) : Prop := ∀ a o, μ a = some o → MRep K μ H a o
theorem MRep.tracked {a : Addr} {o : MO} (h : MRep K μ H a o) : H a ≠ Option.none := by
  cases o with
  | ins C fs => obtain ⟨_, _, e, _⟩ := h; rw [e]; simp
  | lst ds => obtain ⟨_, e, _⟩ := h; rw [e]; simp
  | dic ds => obtain ⟨_, e, _⟩ := h; rw [e]; simp
  | fdc ds => obtain ⟨_, _, e, _⟩ := h; rw [e]; simp
theorem Rep.free (r : Rep K μ H) {a : Addr} (h : H a = Option.none) : μ a = Option.none := by
  cases e : μ a with
  | none => rfl
  | some o => exact absurd h (r a o e).tracked
/-- the object itself stands, all that is not mutable stands -/
theorem MRep.step (s : Step μ H μ' H') {a : Addr} {o : MO} (ha : H' a = H a) (h : MRep K μ H a o) : MRep K μ' H' a o := by
  cases o with
  | ins C fs => obtain ⟨dx, vs, e, r⟩ := h; exact ⟨dx, vs, ha.trans e, r.step s⟩
  | lst ds => obtain ⟨vs, e, r⟩ := h; exact ⟨vs, ha.trans e, r.step s⟩
  | dic ds => obtain ⟨vs, e, r⟩ := h; exact ⟨vs, ha.trans e, r.step s⟩
  | fdc ds => obtain ⟨o, vs, e, r⟩ := h; exact ⟨o, vs, ha.trans e, r.step s⟩
/-- a new object that is data -/
theorem Step.new {p : Addr} {o : HO} (h : H p = Option.none) : Step μ H μ (upd H p o) := fun a u e n => ⟨by rw [upd_ne (ne_of_none e h)]; exact e, n⟩
theorem Rep.new {p : Addr} {o : HO} (r : Rep K μ H) (h : H p = Option.none) : Rep K μ (upd H p o) := fun a u e =>
  (r a u e).step (Step.new h) (upd_ne (by intro z; subst z; exact (r a u e).tracked h))
/-- a new mutable object -/
theorem Step.newM {p : Addr} {o : HO} {u : MO} (h : H p = Option.none) : Step μ H (updM μ p u) (upd H p o) := fun a v e n =>
  ⟨by rw [upd_ne (ne_of_none e h)]; exact e, by rw [updM_ne (ne_of_none e h)]; exact n⟩
theorem Rep.put {p : Addr} {o : HO} {u : MO} (r : Rep K μ H) (s : Step μ H (updM μ p u) (upd H p o)) (new : MRep K (updM μ p u) (upd H p o) p u) : Rep K (updM μ p u) (upd H p o) := fun a v e => by
  by_cases z : a = p
  · subst z
    rw [updM_same] at e
    cases e
    exact new
  · rw [updM_ne z] at e
    exact (r a v e).step s (upd_ne z)
/-- a mutable object is changed -/
theorem Step.mut {p : Addr} {o : HO} {u v : MO} (h : μ p = some v) : Step μ H (updM μ p u) (upd H p o) := fun a w e n =>
  have z : a ≠ p := fun z => by rw [z, h] at n; cases n
  ⟨by rw [upd_ne z]; exact e, by rw [updM_ne z]; exact n⟩
/-- a mutable object becomes data -/
theorem Step.freeze {p : Addr} : Step μ H (delM μ p) H := fun a w e n => ⟨e, by
  by_cases z : a = p
  · rw [z, delM_same]
  · rw [delM_ne z]; exact n⟩
theorem Rep.freeze {p : Addr} (r : Rep K μ H) : Rep K (delM μ p) H := fun a v e => by
  by_cases z : a = p
  · subst z; rw [delM_same] at e; cases e
  · rw [delM_ne z] at e
    exact (r a v e).step Step.freeze rfl

/-! ### the names -/
abbrev En := List (Option Dv)
def Env (K : Kf) (μ : M) (H : Hp) (σ : St) (e : En) : Prop := σ.length = e.length ∧ ∀ (i : Nat) (d : Dv), e[i]? = some (some d) → ∃ v, σ[i]? = some (some v) ∧ DRep K μ H v d
theorem Env.step {σ : St} {e : En} (s : Step μ H μ' H') (h : Env K μ H σ e) : Env K μ' H' σ e := ⟨h.1, fun i d q => let ⟨v, a, b⟩ := h.2 i d q; ⟨v, a, b.step s⟩⟩
theorem Env.set {σ : St} {e : En} {v : V} {d : Dv} (h : Env K μ H σ e) (r : DRep K μ H v d) (i : Nat) : Env K μ H (σ.set i (some v)) (e.set i (some d)) := by
  refine ⟨by rw [List.length_set, List.length_set]; exact h.1, fun j x q => ?_⟩
  by_cases z : i = j
  · subst z
    by_cases hl : i < e.length
    · rw [List.getElem?_set_self hl] at q
      cases q
      exact ⟨v, List.getElem?_set_self (by rw [h.1]; exact hl), r⟩
    · rw [List.getElem?_eq_none (by rw [List.length_set]; omega)] at q
      cases q
  · rw [List.getElem?_set_ne z] at q ⊢
    exact h.2 j x q
/-- a name forgotten -/
theorem Env.unset {σ : St} {e : En} (h : Env K μ H σ e) (o : Option V) (i : Nat) : Env K μ H (σ.set i o) (e.set i Option.none) := by
  refine ⟨by rw [List.length_set, List.length_set]; exact h.1, fun j x q => ?_⟩
  by_cases z : i = j
  · subst z
    by_cases hl : i < e.length
    · rw [List.getElem?_set_self hl] at q
      cases q
    · rw [List.getElem?_eq_none (by rw [List.length_set]; omega)] at q
      cases q
  · rw [List.getElem?_set_ne z] at q ⊢
    exact h.2 j x q
def wipeE (e : En) : List Nat → En
  | [] => e
  | v :: vs => (wipeE e vs).set v Option.none
theorem Env.wipe {σ : St} {e : En} (h : Env K μ H σ e) : ∀ vs : List Nat, Env K μ H (wipe σ vs) (wipeE e vs)
  | [] => h
  | v :: vs => (h.wipe vs).unset _ v
/-- less is told -/
def LeE (e e' : En) : Prop := e.length = e'.length ∧ ∀ (i : Nat) (d : Dv), e'[i]? = some (some d) → e[i]? = some (some d)
theorem Env.le {σ : St} {e e' : En} (h : Env K μ H σ e) (l : LeE e e') : Env K μ H σ e' := ⟨h.1.trans l.1, fun i d q => h.2 i d (l.2 i d q)⟩
theorem Env.start : ∀ {vs : List V} {ds : List Dv} (n : Nat), DReps K μ H vs ds → Env K μ H (vs.map some ++ List.replicate n Option.none) (ds.map some ++ List.replicate n Option.none) := fun {vs ds} n r => by
  refine ⟨by simp [r.length], fun i d q => ?_⟩
  by_cases z : i < ds.length
  · rw [List.getElem?_append_left (by simpa using z), List.getElem?_map] at q
    cases e : ds[i]? with
    | none => rw [e] at q; cases q
    | some x =>
      rw [e] at q
      cases q
      obtain ⟨v, h1, h2⟩ := r.get e
      refine ⟨v, ?_, h2⟩
      rw [List.getElem?_append_left (by simpa [r.length] using z), List.getElem?_map, h1]
      rfl
  · rw [List.getElem?_append_right (by simpa using z), List.getElem?_replicate] at q
    split at q <;> cases q

/-! ### exceptions as data -/
def XRep (K : Kf) (μ : M) (H : Hp) (d : Option Addr) (fs : List (Str × Dv)) : Prop := match d with
  | none => fs = []
  | some dd => ∃ vs, H dd = some (.xd vs) ∧ μ dd = Option.none ∧ DFlds K μ H vs fs
theorem XRep.step {d : Option Addr} {fs : List (Str × Dv)} (s : Step μ H μ' H') (h : XRep K μ H d fs) : XRep K μ' H' d fs := by
  cases d with
  | none => exact h
  | some dd => obtain ⟨vs, e, n, r⟩ := h; exact ⟨vs, (s _ _ e n).1, (s _ _ e n).2, r.step s⟩
abbrev DK := Dv → M → Prop
abbrev XD := Value → List (Str × Dv) → En → M → Prop
/-- what is wished of an exception, told by data -/
def Thr (K : Kf) (W : WX) (KE : XD) (μ : M) (H : Hp) : Prop := ∀ cls fs d σ' e' H' μ', KE cls fs e' μ' → Env K μ' H' σ' e' → Step μ H μ' H' → Rep K μ' H' → XRep K μ' H' d fs → W cls d σ' H'
theorem Thr.step {W : WX} {KE : XD} (s : Step μ H μ' H') (h : Thr K W KE μ H) : Thr K W KE μ' H' := fun cls fs d σ' e' H2 μ2 a b c => h cls fs d σ' e' H2 μ2 a b (s.trans c)
end
end DL

/-! ## Judgements over data; expressions -/
namespace DL
open PySem PySem.Spec L2
def cE (X : Cx) (e : Expr) : TE := fun σ H Q => ∀ (pins : List (Addr × Obj)) (s : Shared), Inv X pins σ H s → wpAny (model X.prog X.w) X.A (eval e X.env) (EP X pins σ Q) X.xe s
theorem peC {X : Cx} {e : Expr} : PE X e (cE X e) := ⟨fun pins s _ _ _ I h => h pins s I⟩
def cT (X : Cx) (e : Expr) : TT := fun σ H Q => ∀ (pins : List (Addr × Obj)) (s : Shared), Inv X pins σ H s → wpAny (model X.prog X.w) X.A (isTrue e X.env (eval e X.env)) (TP X pins σ Q) X.xe s
theorem ptC {X : Cx} {e : Expr} : PT X e (cT X e) := ⟨fun pins s _ _ _ I h => h pins s I⟩
def cW (X : Cx) (e : Expr) : TT := fun σ H Q => ∀ (whole : Sem Value) (pins : List (Addr × Obj)) (s : Shared), Inv X pins σ H s → wpAny (model X.prog X.w) X.A (isTrue e X.env whole) (TP X pins σ Q) X.xe s
theorem pwC {X : Cx} {e : Expr} : PW X e (cW X e) := ⟨fun w pins s _ _ _ I h => h w pins s I⟩
def cA (X : Cx) (es : List Expr) : TA := fun σ H Q => ∀ (pos : Pos) (pins : List (Addr × Obj)) (s : Shared), Inv X pins σ H s → wpAny (model X.prog X.w) X.A (spliced (backTo pos (starEach es X.env))) (AP X pins σ Q) X.xe s
theorem paC {X : Cx} {es : List Expr} : PA X es (cA X es) := ⟨fun pos pins s _ _ _ I h => h pos pins s I⟩
def cS (X : Cx) (st : Stmt) : TS := fun D σ H => ∀ (pins : List (Addr × Obj)) (s : Shared), Inv X pins σ H s → wpAny (model X.prog X.w) X.A (exec st X.env) (SP X pins D) X.xe s
theorem psC {X : Cx} {st : Stmt} : PS X st (cS X st) := ⟨fun pins s _ _ _ I h => h pins s I⟩
def cB (X : Cx) (st : List Stmt) : TS := fun D σ H => ∀ (pins : List (Addr × Obj)) (s : Shared), Inv X pins σ H s → wpAny (model X.prog X.w) X.A (execs st X.env) (SP X pins D) X.xe s
theorem pbC {X : Cx} {st : List Stmt} : PSs X st (cB X st) := ⟨fun pins s _ _ _ I h => h pins s I⟩

structure Cok (k : Nat) (X : Cx) (W : WX) : Prop where
  room : Room k X.A
  calm : X.calm = true
  tk : Takes X W
  nd : X.N.Nodup

/-- from k to Q -/
def Tl (K : Kf) (μ : M) (H : Hp) (k : DK) (Q : VK) : Prop := ∀ v d H' μ', k d μ' → Step μ H μ' H' → Rep K μ' H' → DRep K μ' H' v d → Q v H'
def TlB (K : Kf) (μ : M) (H : Hp) (k : Bool → M → Prop) (Q : Bool → Hp → Prop) : Prop := ∀ b H' μ', k b μ' → Step μ H μ' H' → Rep K μ' H' → Q b H'
def TlA (K : Kf) (μ : M) (H : Hp) (k : List Dv → M → Prop) (Q : List V → Hp → Prop) : Prop := ∀ v d H' μ', k d μ' → Step μ H μ' H' → Rep K μ' H' → DReps K μ' H' v d → Q v H'
theorem Tl.step {K : Kf} {μ μ1 : M} {H H1 : Hp} {k : DK} {Q : VK} (s : Step μ H μ1 H1) (h : Tl K μ H k Q) : Tl K μ1 H1 k Q := fun v d H' μ' a b c => h v d H' μ' a (s.trans b) c
theorem TlB.step {K : Kf} {μ μ1 : M} {H H1 : Hp} {k : Bool → M → Prop} {Q : Bool → Hp → Prop} (s : Step μ H μ1 H1) (h : TlB K μ H k Q) : TlB K μ1 H1 k Q := fun v H' μ' a b c => h v H' μ' a (s.trans b) c
theorem TlA.step {K : Kf} {μ μ1 : M} {H H1 : Hp} {k : List Dv → M → Prop} {Q : List V → Hp → Prop} (s : Step μ H μ1 H1) (h : TlA K μ H k Q) : TlA K μ1 H1 k Q := fun v d H' μ' a b c => h v d H' μ' a (s.trans b) c
section
variable (X : Cx) (W : WX) (KE : XD)
def JE (e : Expr) (n : En) (μ : M) (k : DK) : Prop := ∀ (σ : L2.St) (H : Hp) (Q : VK), Env X.K μ H σ n → Rep X.K μ H → Thr X.K W KE μ H → Tl X.K μ H k Q → cE X e σ H Q
def JT (e : Expr) (n : En) (μ : M) (k : Bool → M → Prop) : Prop := ∀ (σ : L2.St) (H : Hp) (Q : Bool → Hp → Prop), Env X.K μ H σ n → Rep X.K μ H → Thr X.K W KE μ H → TlB X.K μ H k Q → cT X e σ H Q
def JW (e : Expr) (n : En) (μ : M) (k : Bool → M → Prop) : Prop := ∀ (σ : L2.St) (H : Hp) (Q : Bool → Hp → Prop), Env X.K μ H σ n → Rep X.K μ H → Thr X.K W KE μ H → TlB X.K μ H k Q → cW X e σ H Q
def JA (es : List Expr) (n : En) (μ : M) (k : List Dv → M → Prop) : Prop := ∀ (σ : L2.St) (H : Hp) (Q : List V → Hp → Prop), Env X.K μ H σ n → Rep X.K μ H → Thr X.K W KE μ H → TlA X.K μ H k Q → cA X es σ H Q
end
/-- an operation on data -/
def DOp (K : Kf) (r : R2) (x y : Dv) (μ : M) (k : DK) : Prop := ∀ u v H Q, Rep K μ H → DRep K μ H u x → DRep K μ H v y → Tl K μ H k Q → r u v H Q
def DUn (K : Kf) (r : V → Hp → VK → Prop) (x : Dv) (μ : M) (k : DK) : Prop := ∀ u H Q, Rep K μ H → DRep K μ H u x → Tl K μ H k Q → r u H Q
def DCl (K : Kf) (r : List V → Hp → VK → Prop) (xs : List Dv) (μ : M) (k : DK) : Prop := ∀ us H Q, Rep K μ H → DReps K μ H us xs → Tl K μ H k Q → r us H Q
section
variable {X : Cx} {W : WX} {KE : XD} {e a b c : Expr} {es rest : List Expr} {n : En} {μ : M} {k : DK} {pos p : Pos} {x : Str} {K : Kf}
theorem je_of {t : TE} (h : PE X e t) (q : ∀ (σ : L2.St) (H : Hp) (Q : VK), Env X.K μ H σ n → Rep X.K μ H → Thr X.K W KE μ H → Tl X.K μ H k Q → t σ H Q) : JE X W KE e n μ k := fun σ H Q a b c d pins s I => h.run pins s σ H Q I (q σ H Q a b c d)
theorem jt_of {k : Bool → M → Prop} {t : TT} (h : PT X e t) (q : ∀ (σ : L2.St) (H : Hp) (Q : Bool → Hp → Prop), Env X.K μ H σ n → Rep X.K μ H → Thr X.K W KE μ H → TlB X.K μ H k Q → t σ H Q) : JT X W KE e n μ k := fun σ H Q a b c d pins s I => h.run pins s σ H Q I (q σ H Q a b c d)
theorem jw_of {k : Bool → M → Prop} {t : TT} (h : PW X e t) (q : ∀ (σ : L2.St) (H : Hp) (Q : Bool → Hp → Prop), Env X.K μ H σ n → Rep X.K μ H → Thr X.K W KE μ H → TlB X.K μ H k Q → t σ H Q) : JW X W KE e n μ k := fun σ H Q a b c d w pins s I => h.run w pins s σ H Q I (q σ H Q a b c d)
theorem JE.mono {k' : DK} (h : JE X W KE e n μ k) (q : ∀ d μ', k d μ' → k' d μ') : JE X W KE e n μ k' := fun σ H Q a b c d => h σ H Q a b c fun v d' H' μ' z => d v d' H' μ' (q _ _ z)
theorem JT.mono {k k' : Bool → M → Prop} (h : JT X W KE e n μ k) (q : ∀ d μ', k d μ' → k' d μ') : JT X W KE e n μ k' := fun σ H Q a b c d => h σ H Q a b c fun v H' μ' z => d v H' μ' (q _ _ z)
/-- the end of a pure thing -/
theorem tl_pure {H : Hp} {Q : VK} {u : V} {d : Dv} (t : Tl K μ H k Q) (h : k d μ) (r : Rep K μ H) (q : DRep K μ H u d) : Q u H := t u d H μ h (Step.refl μ H) r q
/-- a new object that is data -/
theorem tl_new {H : Hp} {Q : VK} {p : Addr} {o : HO} {d : Dv} (t : Tl K μ H k Q) (h : k d μ) (r : Rep K μ H) (hp : H p = none) (q : DRep K μ (upd H p o) (.ref p) d) : Q (.ref p) (upd H p o) := t _ d _ μ h (Step.new hp) (r.new hp) q

/-! ### names, constants -/
theorem je_name (i : Nat) {d : Dv} (hN : X.N[i]? = some x) (hn : n[i]? = some (some d)) (h : k d μ) (hv : Vis X.env.scope x := by first | exact Or.inl rfl | exact Or.inr (Or.inl rfl) | exact Or.inr (Or.inr rfl)) (hd : (x == ("__debug__" : Str)) = false := by decide)
    (hcd : (x == ("__classdict__" : Str)) = false := by decide) : JE X W KE (.Name x p) n μ k := je_of (pe_var hN hv hd hcd) fun σ H Q ev r t q => by
  obtain ⟨v, h1, h2⟩ := ev.2 i d hn
  exact ⟨v, h1, tl_pure q h r h2⟩
theorem je_int {i : Int} {j : Nat} (h : k (.int i) μ) : JE X W KE (.Constant (.int i) j pos) n μ k := je_of pe_int fun σ H Q ev r t q => tl_pure q h r (.int i)
theorem je_bl {i : Bool} {j : Nat} (h : k (.bl i) μ) : JE X W KE (.Constant (.bool i) j pos) n μ k := je_of pe_bl fun σ H Q ev r t q => tl_pure q h r (.bl i)
theorem je_non {j : Nat} (h : k .non μ) : JE X W KE (.Constant .none j pos) n μ k := je_of pe_non fun σ H Q ev r t q => tl_pure q h r .non
theorem je_str {z : Str} {j : Nat} (h : k (.str z) μ) : JE X W KE (.Constant (.str z) j pos) n μ k := je_of pe_str fun σ H Q ev r t q => tl_pure q h r (.str z)
/-- a module's constant that needs no heap -/
inductive CRel : Dv → V → Prop where
  | int (i : Int) : CRel (.int i) (.int i)
  | str (x : Str) : CRel (.str x) (.str x)
  | obj (a : Addr) : CRel (.obj a) (.ref a)
  | ty (n : String) : CRel (.ty n) (.ty n)
  | non : CRel .non .non
  | bl (b : Bool) : CRel (.bl b) (.bl b)
theorem CRel.rep {d : Dv} {v : V} {H : Hp} (c : CRel d v) : DRep K μ H v d := by
  cases c <;> constructor
/-- what the module's name x holds, as data -/
def Gv (mg : Str → Option Value) (x : Str) (d : Dv) : Prop := ∃ u v, mg x = some u ∧ RelV v u ∧ CRel d v
theorem je_glob {d : Dv} (g : Gv X.mg x d) (h : k d μ) (hg : Gl X x := by rfl) (hd : (x == ("__debug__" : Str)) = false := by decide) : JE X W KE (.Name x p) n μ k := by
  obtain ⟨u, v, h1, h2, h3⟩ := g
  exact je_of (pe_glob hg h1 h2 hd) fun σ H Q ev r t q => tl_pure q h r h3.rep
theorem je_bty {T : String} (hm : X.mg x = none) (hv : bootBuiltins x = some (.type T)) (h : k (.ty T) μ) (hg : Gl X x := by rfl) (hn : x ≠ "__name__" := by decide) (hd : (x == ("__debug__" : Str)) = false := by decide) : JE X W KE (.Name x p) n μ k :=
  je_of (pe_bltn hg hm hv (v := .ty T) rfl hn hd) fun σ H Q ev r t q => tl_pure q h r (.ty T)

/-! ### operators -/
theorem je_bin {op : Operator} {r : R2} (ho : OpR X (binaryOp op) r) (h : JE X W KE a n μ fun x μ1 => JE X W KE b n μ1 fun y μ2 => DOp X.K r x y μ2 k) : JE X W KE (.BinOp a op b pos) n μ k :=
  je_of (pe_op ho peC peC) fun σ H Q ev rp t q => by
    refine h σ H _ ev rp t fun u x H1 μ1 h1 s1 r1 d1 => ?_
    refine h1 σ H1 _ (ev.step s1) r1 (t.step s1) fun v y H2 μ2 h2 s2 r2 d2 => ?_
    exact h2 u v H2 Q r2 (d1.step s2) d2 (q.step (s1.trans s2))
theorem je_un {op : UnaryOp} {r : V → Hp → VK → Prop} (ho : UnR X (unaryOp op) r) (h : JE X W KE a n μ fun x μ1 => DUn X.K r x μ1 k) : JE X W KE (.UnaryOp op a pos) n μ k :=
  je_of (pe_un ho peC) fun σ H Q ev rp t q => by
    refine h σ H _ ev rp t fun u x H1 μ1 h1 s1 r1 d1 => ?_
    exact h1 u H1 Q r1 d1 (q.step s1)
theorem je_cmp {op : CmpOp} {r : R2} (ho : OpR X (compareOp op) r) (hm : behindInMarks op b = false) (h : JE X W KE a n μ fun x μ1 => JE X W KE b n μ1 fun y μ2 => DOp X.K r x y μ2 k) : JE X W KE (.Compare a [op] [b] pos) n μ k :=
  je_of (pe_cmpR ho peC peC hm) fun σ H Q ev rp t q => by
    refine h σ H _ ev rp t fun u x H1 μ1 h1 s1 r1 d1 => ?_
    refine h1 σ H1 _ (ev.step s1) r1 (t.step s1) fun v y H2 μ2 h2 s2 r2 d2 => ?_
    exact h2 u v H2 Q r2 (d1.step s2) d2 (q.step (s1.trans s2))
/-- a op b op' c -/
theorem je_chain {op op' : CmpOp} {r r' : R2} (ho : OpR X (compareOp op) r) (ho' : OpR X (compareOp op') r')
    (h : JE X W KE a n μ fun x μ1 => JE X W KE b n μ1 fun y μ2 => DOp X.K r x y μ2 fun z μ3 => ∃ b, z = .bl b ∧ (b = true → JE X W KE c n μ3 fun w μ4 => DOp X.K r' y w μ4 k) ∧ (b = false → k (.bl false) μ3))
    (hm : lastMarks [op, op'] [b, c] = false := by with_unfolding_all rfl) : JE X W KE (.Compare a [op, op'] [b, c] pos) n μ k :=
  je_of (pe_chain ho ho' peC peC peC hm) fun σ H Q ev rp t q => by
    refine h σ H _ ev rp t fun u x H1 μ1 h1 s1 r1 d1 => ?_
    refine h1 σ H1 _ (ev.step s1) r1 (t.step s1) fun v y H2 μ2 h2 s2 r2 d2 => ?_
    refine h2 u v H2 _ r2 (d1.step s2) d2 fun z d3 H3 μ3 h3 s3 r3 d3' => ?_
    obtain ⟨b, rfl, ht, hf⟩ := h3
    cases d3'
    refine ⟨b, rfl, ?_⟩
    have s13 := (s1.trans s2).trans s3
    cases b with
    | true =>
      rw [if_pos rfl]
      refine ht rfl σ H3 _ (ev.step s13) r3 (t.step s13) fun w y4 H4 μ4 h4 s4 r4 d4 => ?_
      exact h4 v w H4 Q r4 (d2.step (s3.trans s4)) d4 (q.step (s13.trans s4))
    | false =>
      rw [if_neg Bool.false_ne_true]
      exact tl_pure (q.step s13) (hf rfl) r3 (.bl false)
/-- a and b, a or b, not a, a if t else b, as values -/
theorem je_one {op : BoolOp} (h : JE X W KE a n μ k) : JE X W KE (.BoolOp op [a] pos) n μ k := je_of (pe_one peC) fun σ H Q ev rp t q => h σ H Q ev rp t q
theorem je_and (h : JE X W KE a n μ fun x μ1 => ∃ c, x = .bl c ∧ (c = true → JE X W KE (.BoolOp .And (b :: rest) pos) n μ1 k) ∧ (c = false → k (.bl false) μ1)) : JE X W KE (.BoolOp .And (a :: b :: rest) pos) n μ k :=
  je_of (pe_and peC peC) fun σ H Q ev rp t q => by
    refine h σ H _ ev rp t fun u x H1 μ1 h1 s1 r1 d1 => ?_
    obtain ⟨c, rfl, ht, hf⟩ := h1
    cases d1
    refine ⟨c, rfl, ?_⟩
    cases c with
    | true => rw [if_pos rfl]; exact ht rfl σ H1 Q (ev.step s1) r1 (t.step s1) (q.step s1)
    | false => rw [if_neg Bool.false_ne_true]; exact tl_pure (q.step s1) (hf rfl) r1 (.bl false)
theorem je_or (h : JE X W KE a n μ fun x μ1 => ∃ c, x = .bl c ∧ (c = true → k (.bl true) μ1) ∧ (c = false → JE X W KE (.BoolOp .Or (b :: rest) pos) n μ1 k)) : JE X W KE (.BoolOp .Or (a :: b :: rest) pos) n μ k :=
  je_of (pe_or peC peC) fun σ H Q ev rp t q => by
    refine h σ H _ ev rp t fun u x H1 μ1 h1 s1 r1 d1 => ?_
    obtain ⟨c, rfl, ht, hf⟩ := h1
    cases d1
    refine ⟨c, rfl, ?_⟩
    cases c with
    | true => rw [if_pos rfl]; exact tl_pure (q.step s1) (ht rfl) r1 (.bl true)
    | false => rw [if_neg Bool.false_ne_true]; exact hf rfl σ H1 Q (ev.step s1) r1 (t.step s1) (q.step s1)
theorem je_not (h : JE X W KE a n μ fun x μ1 => ∃ c, x = .bl c ∧ k (.bl (!c)) μ1) : JE X W KE (.UnaryOp .Not a pos) n μ k :=
  je_of (pe_not peC) fun σ H Q ev rp t q => by
    refine h σ H _ ev rp t fun u x H1 μ1 h1 s1 r1 d1 => ?_
    obtain ⟨c, rfl, h2⟩ := h1
    cases d1
    exact ⟨c, rfl, tl_pure (q.step s1) h2 r1 (.bl _)⟩
theorem je_ite (h : JT X W KE c n μ fun t μ1 => (t = true → JE X W KE a n μ1 k) ∧ (t = false → JE X W KE b n μ1 k)) : JE X W KE (.IfExp c a b pos) n μ k :=
  je_of (pe_ifExp ptC peC peC) fun σ H Q ev rp t q => by
    refine h σ H _ ev rp t fun u H1 μ1 h1 s1 r1 => ?_
    cases u with
    | true => rw [if_pos rfl]; exact h1.1 rfl σ H1 Q (ev.step s1) r1 (t.step s1) (q.step s1)
    | false => rw [if_neg Bool.false_ne_true]; exact h1.2 rfl σ H1 Q (ev.step s1) r1 (t.step s1) (q.step s1)

/-! ### tests -/
section
variable {kb : Bool → M → Prop}
theorem jt_val (h : JE X W KE e n μ fun x μ1 => ∃ c, x = .bl c ∧ kb c μ1) (he : ∀ whole, isTrue e X.env whole = (do let v ← whole; standAt e.pos; holding [v] (truthy v)) := by intro _; rfl) : JT X W KE e n μ kb :=
  jt_of (pt_val peC he) fun σ H Q ev rp t q => by
    refine h σ H _ ev rp t fun u x H1 μ1 h1 s1 r1 d1 => ?_
    obtain ⟨c, rfl, h2⟩ := h1
    cases d1
    exact ⟨c, rfl, q _ _ μ1 h2 s1 r1⟩
theorem jt_not (h : JT X W KE a n μ fun c μ1 => kb (!c) μ1) : JT X W KE (.UnaryOp .Not a pos) n μ kb :=
  jt_of (pt_not ptC) fun σ H Q ev rp t q => h σ H _ ev rp t fun u H1 μ1 h1 s1 r1 => q _ _ μ1 h1 s1 r1
theorem jt_w (h : JW X W KE e n μ kb) : JT X W KE e n μ kb := jt_of pwC.pt fun σ H Q ev rp t q => h σ H Q ev rp t q
theorem jw_and1 (h : JT X W KE a n μ kb) : JW X W KE (.BoolOp .And [a] pos) n μ kb := jw_of (pw_and1 ptC) fun σ H Q ev rp t q => h σ H Q ev rp t q
theorem jw_or1 (h : JT X W KE a n μ kb) : JW X W KE (.BoolOp .Or [a] pos) n μ kb := jw_of (pw_or1 ptC) fun σ H Q ev rp t q => h σ H Q ev rp t q
theorem jw_and (h : JT X W KE a n μ fun c μ1 => (c = true → JW X W KE (.BoolOp .And (b :: rest) pos) n μ1 kb) ∧ (c = false → kb false μ1)) : JW X W KE (.BoolOp .And (a :: b :: rest) pos) n μ kb :=
  jw_of (pw_and ptC pwC) fun σ H Q ev rp t q => by
    refine h σ H _ ev rp t fun u H1 μ1 h1 s1 r1 => ?_
    cases u with
    | true => rw [if_pos rfl]; exact h1.1 rfl σ H1 Q (ev.step s1) r1 (t.step s1) (q.step s1)
    | false => rw [if_neg Bool.false_ne_true]; exact q _ _ μ1 (h1.2 rfl) s1 r1
theorem jw_or (h : JT X W KE a n μ fun c μ1 => (c = true → kb true μ1) ∧ (c = false → JW X W KE (.BoolOp .Or (b :: rest) pos) n μ1 kb)) : JW X W KE (.BoolOp .Or (a :: b :: rest) pos) n μ kb :=
  jw_of (pw_or ptC pwC) fun σ H Q ev rp t q => by
    refine h σ H _ ev rp t fun u H1 μ1 h1 s1 r1 => ?_
    cases u with
    | true => rw [if_pos rfl]; exact q _ _ μ1 (h1.1 rfl) s1 r1
    | false => rw [if_neg Bool.false_ne_true]; exact h1.2 rfl σ H1 Q (ev.step s1) r1 (t.step s1) (q.step s1)
end

/-! ### arguments, displays -/
section
variable {ka : List Dv → M → Prop}
theorem ja_nil (h : ka [] μ) : JA X W KE [] n μ ka := fun σ H Q ev rp t q pos pins s I => pa_nil.run pos pins s σ H Q I (q _ _ _ μ h (Step.refl _ _) rp .nil)
theorem ja_cons (h : JE X W KE a n μ fun x μ1 => JA X W KE rest n μ1 fun xs μ2 => ka (x :: xs) μ2) (hs : starEach (a :: rest) X.env = (false, eval a X.env) :: starEach rest X.env := by rfl) : JA X W KE (a :: rest) n μ ka := fun σ H Q ev rp t q pos pins s I => by
  refine (pa_cons peC paC hs).run pos pins s σ H Q I ?_
  refine h σ H _ ev rp t fun u x H1 μ1 h1 s1 r1 d1 => ?_
  refine h1 σ H1 _ (ev.step s1) r1 (t.step s1) fun us xs H2 μ2 h2 s2 r2 d2 => ?_
  exact q _ _ H2 μ2 h2 (s1.trans s2) r2 (.cons (d1.step s2) d2)
theorem ja_one (h : JE X W KE a n μ fun x μ1 => ka [x] μ1) (hs : starEach [a] X.env = (false, eval a X.env) :: starEach [] X.env := by rfl) : JA X W KE [a] n μ ka := ja_cons (h.mono fun _ _ z => ja_nil z) hs
end
theorem je_tup {kk} (h : JA X W KE es n μ fun xs μ1 => xs.length ≤ sizeLine ∧ k (.tup xs) μ1) : JE X W KE (.Tuple es kk pos) n μ k :=
  je_of (pe_tup paC) fun σ H Q ev rp t q => by
    refine h σ H _ ev rp t fun us xs H1 μ1 h1 s1 r1 d1 => ⟨by rw [d1.length]; exact h1.1, fun p hp => ?_⟩
    exact tl_new (q.step s1) h1.2 r1 hp (.tup upd_same (r1.free hp) (d1.step (Step.new hp)))
theorem je_lst (h : JA X W KE es n μ fun xs μ1 => xs.length ≤ sizeLine ∧ k (.lst xs) μ1) : JE X W KE (.List es pos) n μ k :=
  je_of (pe_lst paC) fun σ H Q ev rp t q => by
    refine h σ H _ ev rp t fun us xs H1 μ1 h1 s1 r1 d1 => ⟨by rw [d1.length]; exact h1.1, fun p hp => ?_⟩
    exact tl_new (q.step s1) h1.2 r1 hp (.lst upd_same (r1.free hp) (d1.step (Step.new hp)))
/-- a display that stays mutable -/
theorem je_lstM (h : JA X W KE es n μ fun xs μ1 => xs.length ≤ sizeLine ∧ ∀ a, μ1 a = none → k (.obj a) (updM μ1 a (.lst xs))) : JE X W KE (.List es pos) n μ k :=
  je_of (pe_lst paC) fun σ H Q ev rp t q => by
    refine h σ H _ ev rp t fun us xs H1 μ1 h1 s1 r1 d1 => ⟨by rw [d1.length]; exact h1.1, fun p hp => ?_⟩
    have s2 : Step μ1 H1 (updM μ1 p (.lst xs)) (upd H1 p (.lst us)) := Step.newM hp
    exact q _ _ _ _ (h1.2 p (r1.free hp)) (s1.trans s2) (r1.put s2 ⟨us, upd_same, d1.step s2⟩) (.obj p)
/-- {} -/
theorem je_dnew (h : ∀ a, μ a = none → k (.obj a) (updM μ a (.dic []))) : JE X W KE (.Dict [] [] pos) n μ k :=
  je_of pe_dnewK fun σ H Q ev rp t q => fun p hp => by
    have s2 : Step μ H (updM μ p (.dic [])) (upd H p (.dK [])) := Step.newM hp
    exact q _ _ _ _ (h p (rp.free hp)) s2 (rp.put s2 ⟨[], upd_same, .nil⟩) (.obj p)

/-! ### what may be read as a list, a tuple, an instance -/
inductive LsE (μ : M) : Dv → List Dv → Prop where
  | lst (xs : List Dv) : LsE μ (.lst xs) xs
  | obj {a : Addr} {xs : List Dv} (h : μ a = some (.lst xs)) : LsE μ (.obj a) xs
theorem LsE.rep {d : Dv} {xs : List Dv} {H : Hp} {u : V} (l : LsE μ d xs) (r : Rep K μ H) (q : DRep K μ H u d) : ∃ a vs, u = .ref a ∧ H a = some (.lst vs) ∧ DReps K μ H vs xs := by
  cases l with
  | lst xs => cases q with | lst h n r => exact ⟨_, _, rfl, h, r⟩
  | obj h => cases q with | obj a => obtain ⟨vs, e, rr⟩ := r _ _ h; exact ⟨_, _, rfl, e, rr⟩
inductive SqD (μ : M) : Dv → List Dv → Prop where
  | lst (xs : List Dv) : SqD μ (.lst xs) xs
  | fro (xs : List Dv) : SqD μ (.fro xs) xs
  | obj {a : Addr} {xs : List Dv} (h : μ a = some (.lst xs)) : SqD μ (.obj a) xs
theorem SqD.rep {d : Dv} {xs : List Dv} {H : Hp} {u : V} (l : SqD μ d xs) (r : Rep K μ H) (q : DRep K μ H u d) : ∃ a vs, u = .ref a ∧ SqL K H a vs ∧ DReps K μ H vs xs := by
  cases l with
  | lst xs => cases q with | lst h n r => exact ⟨_, _, rfl, SqL.of h, r⟩
  | fro xs =>
    cases q with
    | fro h n r => exact ⟨_, _, rfl, .inl h, r⟩
    | frk h r => exact ⟨_, _, rfl, .inr h, r⟩
  | obj h => cases q with | obj a => obtain ⟨vs, e, rr⟩ := r _ _ h; exact ⟨_, _, rfl, SqL.of e, rr⟩
theorem tup_rep {xs : List Dv} {H : Hp} {u : V} (q : DRep K μ H u (.tup xs)) : ∃ a vs, u = .ref a ∧ H a = some (.tup vs) ∧ DReps K μ H vs xs := by
  cases q with | tup h n r => exact ⟨_, _, rfl, h, r⟩
/-- an instance, mutable or data -/
inductive InsD (μ : M) : Dv → Addr → List (Str × Dv) → Prop where
  | ins (C : Addr) (fs : List (Str × Dv)) : InsD μ (.ins C fs) C fs
  | obj {a C : Addr} {fs : List (Str × Dv)} (h : μ a = some (.ins C fs)) : InsD μ (.obj a) C fs
theorem InsD.rep {d : Dv} {C : Addr} {fs : List (Str × Dv)} {H : Hp} {u : V} (l : InsD μ d C fs) (r : Rep K μ H) (q : DRep K μ H u d) : ∃ a dx vs, u = .ref a ∧ H a = some (.ins C dx vs) ∧ DFlds K μ H vs fs := by
  cases l with
  | ins C fs => cases q with | ins h n r => exact ⟨_, _, _, rfl, h, r⟩
  | obj h => cases q with | obj a => obtain ⟨dx, vs, e, rr⟩ := r _ _ h; exact ⟨_, _, _, rfl, e, rr⟩
theorem je_fld {f : Str} (h : JE X W KE e n μ fun d μ1 => ∃ C fs v, InsD μ1 d C fs ∧ Cls X.K C ∧ NoAttr X.K C f ∧ fs.lookup f = some v ∧ k v μ1)
    (hb : attributeBase e f X.env (eval e X.env) = eval e X.env := by rfl) : JE X W KE (.Attribute e f pos) n μ k :=
  je_of (pe_fld peC hb) fun σ H Q ev rp t q => by
    refine h σ H _ ev rp t fun u x H1 μ1 h1 s1 r1 d1 => ?_
    obtain ⟨C, fs, v, i, c, na, l, h2⟩ := h1
    obtain ⟨a, dx, vs, rfl, ha, fr⟩ := i.rep r1 d1
    obtain ⟨w, l1, l2⟩ := fr.get l
    exact ⟨a, C, dx, vs, w, rfl, ha, c, na, l1, tl_pure (q.step s1) h2 r1 l2⟩
end
end DL

/-! ## Operators, subscripts, calls -/
namespace DL
open PySem PySem.Spec L2
section
variable {X : Cx} {W : WX} {KE : XD} {e a b c : Expr} {es rest : List Expr} {n : En} {μ : M} {k : DK} {pos p : Pos} {x : Str} {K : Kf} {kl : Nat}

/-! ### operators on data -/
def rAddA (K : Kf) : R2 := fun x y H Q => rI0 (fun i j => V.int (i + j)) x y H Q ∨ (∃ i j, x = V.str i ∧ y = V.str j ∧ i.length + j.length ≤ sizeLine ∧ Q (.str (i ++ j)) H) ∨ rCat x y H Q ∨ rCatA K x y H Q
theorem op_addA : OpR X (binaryOp .Add) (rAddA X.K) := OpR.or op_add (OpR.or op_add_str (OpR.or op_cat op_catA))
theorem je_add (h : JE X W KE a n μ fun x μ1 => JE X W KE b n μ1 fun y μ2 => DOp X.K (rAddA X.K) x y μ2 k) : JE X W KE (.BinOp a .Add b pos) n μ k := je_bin op_addA h
theorem d_addI {i j : Int} (h : k (.int (i + j)) μ) : DOp K (rAddA K) (.int i) (.int j) μ k := fun u v H Q r du dv t => by
  cases du; cases dv
  exact .inl ⟨i, j, rfl, rfl, tl_pure t h r (.int _)⟩
theorem d_addS {i j : Str} (hz : i.length + j.length ≤ sizeLine) (h : k (.str (i ++ j)) μ) : DOp K (rAddA K) (.str i) (.str j) μ k := fun u v H Q r du dv t => by
  cases du; cases dv
  exact .inr (.inl ⟨i, j, rfl, rfl, hz, tl_pure t h r (.str _)⟩)
theorem d_addL {x y : Dv} {xs ys : List Dv} (l1 : LsE μ x xs) (l2 : LsE μ y ys) (hz : xs.length + ys.length ≤ sizeLine) (h : k (.lst (xs ++ ys)) μ) : DOp K (rAddA K) x y μ k := fun u v H Q r du dv t => by
  obtain ⟨a, vs, rfl, ha, ra⟩ := l1.rep r du
  obtain ⟨b, ws, rfl, hb, rb⟩ := l2.rep r dv
  exact .inr (.inr (.inl ⟨a, b, vs, ws, rfl, rfl, ha, hb, by rw [ra.length, rb.length]; exact hz, fun p hp => tl_new t h r hp (.lst upd_same (r.free hp) ((ra.append rb).step (Step.new hp)))⟩))
theorem d_addT {xs ys : List Dv} (hz : xs.length + ys.length ≤ sizeLine) (h : k (.tup (xs ++ ys)) μ) : DOp K (rAddA K) (.tup xs) (.tup ys) μ k := fun u v H Q r du dv t => by
  have du' := du
  have dv' := dv
  obtain ⟨a, vs, rfl, ha, ra⟩ := tup_rep du
  obtain ⟨b, ws, rfl, hb, rb⟩ := tup_rep dv
  refine .inr (.inr (.inr ⟨a, b, vs, ws, rfl, rfl, SqT.of ha, SqT.of hb, by rw [ra.length, rb.length]; exact hz, fun e => ?_, fun _ e => ?_, fun _ _ p hp => ?_⟩))
  · subst e
    cases ra
    exact tl_pure t h r dv'
  · subst e
    cases rb
    rw [List.append_nil] at h
    exact tl_pure t h r du'
  · exact tl_new t h r hp (.tup upd_same (r.free hp) ((ra.append rb).step (Step.new hp)))
theorem je_sub (h : JE X W KE a n μ fun x μ1 => JE X W KE b n μ1 fun y μ2 => DOp X.K (rI0 fun i j => V.int (i - j)) x y μ2 k) : JE X W KE (.BinOp a .Sub b pos) n μ k := je_bin op_sub h
theorem d_I0 {g : Int → Int → V} {z : Dv} {i j : Int} (hz : ∀ H, DRep K μ H (g i j) z) (h : k z μ) : DOp K (rI0 g) (.int i) (.int j) μ k := fun u v H Q r du dv t => by
  cases du; cases dv
  exact ⟨i, j, rfl, rfl, tl_pure t h r (hz H)⟩
theorem d_I {g : Int → Int → V} {C : Int → Int → Prop} {z : Dv} {i j : Int} (hc : C i j) (hz : ∀ H, DRep K μ H (g i j) z) (h : k z μ) : DOp K (rI C g) (.int i) (.int j) μ k := fun u v H Q r du dv t => by
  cases du; cases dv
  exact ⟨i, j, rfl, rfl, hc, tl_pure t h r (hz H)⟩
theorem d_subI {i j : Int} (h : k (.int (i - j)) μ) : DOp K (rI0 fun i j => V.int (i - j)) (.int i) (.int j) μ k := d_I0 (fun _ => .int _) h
def rMulA : R2 := fun x y H Q => rI CMul (fun i j => V.int (i * j)) x y H Q ∨ rRep x y H Q
theorem op_mulA : OpR X (binaryOp .Mult) rMulA := OpR.or op_mul op_rep
theorem je_mul (h : JE X W KE a n μ fun x μ1 => JE X W KE b n μ1 fun y μ2 => DOp X.K rMulA x y μ2 k) : JE X W KE (.BinOp a .Mult b pos) n μ k := je_bin op_mulA h
theorem d_mulI {i j : Int} (hc : CMul i j) (h : k (.int (i * j)) μ) : DOp K rMulA (.int i) (.int j) μ k := fun u v H Q r du dv t => .inl (d_I hc (fun _ => .int _) h u v H Q r du dv t)
theorem replicate_flatten_one {α : Type} (v : α) (j : Nat) : (List.replicate j [v]).flatten = List.replicate j v := by
  induction j with
  | zero => rfl
  | succ j ih => rw [List.replicate_succ, List.replicate_succ, List.flatten_cons, ih]; rfl
/-- [d] * j -/
theorem d_mulL1 {x d : Dv} {j : Int} (l1 : LsE μ x [d]) (hj : -(2 ^ 63) ≤ j ∧ j ≤ 16777216) (h : k (.lst (List.replicate j.toNat d)) μ) : DOp K rMulA x (.int j) μ k := fun u v H Q r du dv t => by
  obtain ⟨a, vs, rfl, ha, ra⟩ := l1.rep r du
  cases dv
  cases ra with
  | cons h1 t1 =>
    cases t1
    refine .inr ⟨a, j, _, rfl, rfl, ha, hj.1, by omega, by show 1 * j.toNat ≤ sizeLine; rw [sizeLine_eq]; omega, fun p hp => tl_new t h r hp (.lst upd_same (r.free hp) ?_)⟩
    rw [replicate_flatten_one]
    exact (DReps.replicate h1 _).step (Step.new hp)
theorem je_fdiv (h : JE X W KE a n μ fun x μ1 => JE X W KE b n μ1 fun y μ2 => DOp X.K (rI CDiv fun i j => V.int (i / j)) x y μ2 k) : JE X W KE (.BinOp a .FloorDiv b pos) n μ k := je_bin op_fdiv h
theorem d_fdivI {i j : Int} (hc : CDiv i j) (h : k (.int (i / j)) μ) : DOp K (rI CDiv fun i j => V.int (i / j)) (.int i) (.int j) μ k := d_I hc (fun _ => .int _) h
theorem je_mod (h : JE X W KE a n μ fun x μ1 => JE X W KE b n μ1 fun y μ2 => DOp X.K (rI (fun _ j => 0 < j) fun i j => V.int (i % j)) x y μ2 k) : JE X W KE (.BinOp a .Mod b pos) n μ k := je_bin op_mod h
theorem d_modI {i j : Int} (hc : 0 < j) (h : k (.int (i % j)) μ) : DOp K (rI (fun _ j => 0 < j) fun i j => V.int (i % j)) (.int i) (.int j) μ k := d_I (C := fun _ j => 0 < j) hc (fun _ => .int _) h
theorem je_pow (h : JE X W KE a n μ fun x μ1 => JE X W KE b n μ1 fun y μ2 => DOp X.K (rI CPow fun i j => V.int (i ^ j.toNat)) x y μ2 k) : JE X W KE (.BinOp a .Pow b pos) n μ k := je_bin op_pow h
theorem d_powI {i j : Int} (hc : CPow i j) (h : k (.int (i ^ j.toNat)) μ) : DOp K (rI CPow fun i j => V.int (i ^ j.toNat)) (.int i) (.int j) μ k := d_I hc (fun _ => .int _) h
theorem je_neg (h : JE X W KE a n μ fun x μ1 => DUn X.K (rU fun i => V.int (-i)) x μ1 k) : JE X W KE (.UnaryOp .USub a pos) n μ k := je_un un_neg h
theorem d_negI {i : Int} (h : k (.int (-i)) μ) : DUn K (rU fun i => V.int (-i)) (.int i) μ k := fun u H Q r du t => by
  cases du
  exact ⟨i, rfl, tl_pure t h r (.int _)⟩

/-! ### comparisons -/
theorem je_lt (h : JE X W KE a n μ fun x μ1 => JE X W KE b n μ1 fun y μ2 => DOp X.K (rI0 fun i j => V.bl (decide (i < j))) x y μ2 k) : JE X W KE (.Compare a [.Lt] [b] pos) n μ k := je_cmp op_lt (nomark _) h
theorem je_le (h : JE X W KE a n μ fun x μ1 => JE X W KE b n μ1 fun y μ2 => DOp X.K (rI0 fun i j => V.bl (decide (i ≤ j))) x y μ2 k) : JE X W KE (.Compare a [.LtE] [b] pos) n μ k := je_cmp op_le (nomark _) h
theorem je_gt (h : JE X W KE a n μ fun x μ1 => JE X W KE b n μ1 fun y μ2 => DOp X.K (rI0 fun i j => V.bl (decide (j < i))) x y μ2 k) : JE X W KE (.Compare a [.Gt] [b] pos) n μ k := je_cmp op_gt (nomark _) h
theorem je_ge (h : JE X W KE a n μ fun x μ1 => JE X W KE b n μ1 fun y μ2 => DOp X.K (rI0 fun i j => V.bl (decide (j ≤ i))) x y μ2 k) : JE X W KE (.Compare a [.GtE] [b] pos) n μ k := je_cmp op_ge (nomark _) h
theorem d_cmpI {g : Int → Int → Bool} {i j : Int} (h : k (.bl (g i j)) μ) : DOp K (rI0 fun i j => V.bl (g i j)) (.int i) (.int j) μ k := d_I0 (fun _ => .bl _) h
/-- flat things that == compares at once -/
inductive ScD : Dv → V → Prop where
  | non : ScD .non .non
  | bl (b : Bool) : ScD (.bl b) (.bl b)
  | int (i : Int) : ScD (.int i) (.int i)
  | str (x : Str) : ScD (.str x) (.str x)
theorem ScD.eq {d : Dv} {u v : V} {H : Hp} (s : ScD d v) (r : DRep K μ H u d) : u = v := by cases s <;> cases r <;> rfl
mutual
def toPy : Dv → Option PyData
  | .non => some .none
  | .bl b => some (.bool b)
  | .int i => some (.int i)
  | .str x => some (.str x)
  | .tup xs => (toPys xs).map .tuple
  | .lst xs => (toPys xs).map .list
  | .fro xs => (toPys xs).map .list
  | _ => none
def toPys : List Dv → Option (List PyData)
  | [] => some []
  | x :: r => match toPy x, toPys r with
    | some y, some ys => some (y :: ys)
    | _, _ => none
end
mutual
theorem DRep.dp {H : Hp} : ∀ {v : V} {d : Dv} {q : PyData}, DRep K μ H v d → toPy d = some q → Dp K H v q
  | _, _, q, .non, e => by unfold toPy at e; cases e; exact .non
  | _, _, q, .bl b, e => by unfold toPy at e; cases e; exact .bl b
  | _, _, q, .int b, e => by unfold toPy at e; cases e; exact .int b
  | _, _, q, .str b, e => by unfold toPy at e; cases e; exact .str b
  | _, _, q, .ty b, e => by unfold toPy at e; cases e
  | _, _, q, .obj b, e => by unfold toPy at e; cases e
  | _, _, q, .tup (ds := ds) h n r, e => by
    unfold toPy at e
    cases z : toPys ds with
    | none => rw [z] at e; cases e
    | some qs => rw [z] at e; cases e; exact .tup (SqT.of h) (r.dps z)
  | _, _, q, .lst (ds := ds) h n r, e => by
    unfold toPy at e
    cases z : toPys ds with
    | none => rw [z] at e; cases e
    | some qs => rw [z] at e; cases e; exact .lst (SqL.of h) (r.dps z)
  | _, _, q, .fro (ds := ds) h n r, e => by
    unfold toPy at e
    cases z : toPys ds with
    | none => rw [z] at e; cases e
    | some qs => rw [z] at e; cases e; exact .lst (.inl h) (r.dps z)
  | _, _, q, .frk (ds := ds) h r, e => by
    unfold toPy at e
    cases z : toPys ds with
    | none => rw [z] at e; cases e
    | some qs => rw [z] at e; cases e; exact .lst (.inr h) (r.dps z)
  | _, _, q, .ins h n r, e => by unfold toPy at e; cases e
  | _, _, q, .exc0 h n, e => by unfold toPy at e; cases e
  | _, _, q, .exc1 h n h2 n2 r, e => by unfold toPy at e; cases e
theorem DReps.dps {H : Hp} : ∀ {v : List V} {d : List Dv} {q : List PyData}, DReps K μ H v d → toPys d = some q → DpAll K H v q
  | _, _, q, .nil, e => by unfold toPys at e; cases e; exact .nil
  | _, _, q, .cons (d := d) (ds := ds) h t, e => by
    unfold toPys at e
    cases z1 : toPy d with
    | none => rw [z1] at e; cases e
    | some y =>
      cases z2 : toPys ds with
      | none => rw [z1, z2] at e; cases e
      | some ys =>
        rw [z1, z2] at e
        cases e
        exact .cons (h.dp z1) (t.dps z2)
end
def rEqA (K : Kf) : R2 := fun x y H Q => rEq x y H Q ∨ rEqD K x y H Q
def rNeA (K : Kf) : R2 := fun x y H Q => rNe x y H Q ∨ rNeD K x y H Q
theorem je_eq (c : Cok kl X W) (h : JE X W KE a n μ fun x μ1 => JE X W KE b n μ1 fun y μ2 => DOp X.K (rEqA X.K) x y μ2 k) : JE X W KE (.Compare a [.Eq] [b] pos) n μ k := je_cmp (OpR.or op_eq (op_eqD c.room.units)) (nomark _) h
theorem je_ne (c : Cok kl X W) (h : JE X W KE a n μ fun x μ1 => JE X W KE b n μ1 fun y μ2 => DOp X.K (rNeA X.K) x y μ2 k) : JE X W KE (.Compare a [.NotEq] [b] pos) n μ k := je_cmp (OpR.or op_ne (op_neD c.room.units)) (nomark _) h
theorem d_eqSc {x y : Dv} {u v : V} (hx : ScD x u) (hy : ScD y v) (hs : scal u v = true) (h : k (.bl (decide (u = v))) μ) : DOp K (rEqA K) x y μ k := fun u' v' H Q r du dv t => by
  rw [hx.eq du, hy.eq dv]
  exact .inl ⟨hs, tl_pure t h r (.bl _)⟩
theorem d_neSc {x y : Dv} {u v : V} (hx : ScD x u) (hy : ScD y v) (hs : scal u v = true) (h : k (.bl (!decide (u = v))) μ) : DOp K (rNeA K) x y μ k := fun u' v' H Q r du dv t => by
  rw [hx.eq du, hy.eq dv]
  exact .inl ⟨hs, tl_pure t h r (.bl _)⟩
theorem decI {i j : Int} : decide (V.int i = V.int j) = decide (i = j) := decide_eq_decide.mpr ⟨V.int.inj, congrArg _⟩
theorem decS {i j : Str} : decide (V.str i = V.str j) = decide (i = j) := decide_eq_decide.mpr ⟨V.str.inj, congrArg _⟩
theorem decB {i j : Bool} : decide (V.bl i = V.bl j) = decide (i = j) := decide_eq_decide.mpr ⟨V.bl.inj, congrArg _⟩
theorem d_eqI {i j : Int} (h : k (.bl (decide (i = j))) μ) : DOp K (rEqA K) (.int i) (.int j) μ k := d_eqSc (.int i) (.int j) rfl (by rw [decI]; exact h)
theorem d_neI {i j : Int} (h : k (.bl (!decide (i = j))) μ) : DOp K (rNeA K) (.int i) (.int j) μ k := d_neSc (.int i) (.int j) rfl (by rw [decI]; exact h)
theorem d_eqS {i j : Str} (h : k (.bl (decide (i = j))) μ) : DOp K (rEqA K) (.str i) (.str j) μ k := d_eqSc (.str i) (.str j) rfl (by rw [decS]; exact h)
theorem d_neS {i j : Str} (h : k (.bl (!decide (i = j))) μ) : DOp K (rNeA K) (.str i) (.str j) μ k := d_neSc (.str i) (.str j) rfl (by rw [decS]; exact h)
theorem d_eqB {i j : Bool} (h : k (.bl (decide (i = j))) μ) : DOp K (rEqA K) (.bl i) (.bl j) μ k := d_eqSc (.bl i) (.bl j) rfl (by rw [decB]; exact h)
theorem d_neB {i j : Bool} (h : k (.bl (!decide (i = j))) μ) : DOp K (rNeA K) (.bl i) (.bl j) μ k := d_neSc (.bl i) (.bl j) rfl (by rw [decB]; exact h)
theorem d_eqNI {j : Int} (h : k (.bl false) μ) : DOp K (rEqA K) .non (.int j) μ k := d_eqSc .non (.int j) rfl h
theorem d_neNI {j : Int} (h : k (.bl true) μ) : DOp K (rNeA K) .non (.int j) μ k := d_neSc .non (.int j) rfl h
theorem d_eqD {x y : Dv} {p q : PyData} (hx : toPy x = some p) (hy : toPy y = some q) (sp : SeqAt.shaped p = true) (sq : SeqAt.shaped q = true) (h : k (.bl (PyData.eqv p q)) μ) : DOp K (rEqA K) x y μ k := fun u v H Q r du dv t =>
  .inr ⟨p, q, du.dp hx, dv.dp hy, sp, sq, tl_pure t h r (.bl _)⟩
theorem d_neD {x y : Dv} {p q : PyData} (hx : toPy x = some p) (hy : toPy y = some q) (sp : SeqAt.shaped p = true) (sq : SeqAt.shaped q = true) (h : k (.bl (!PyData.eqv p q)) μ) : DOp K (rNeA K) x y μ k := fun u v H Q r du dv t =>
  .inr ⟨p, q, du.dp hx, dv.dp hy, sp, sq, tl_pure t h r (.bl _)⟩
/-- a mutable list read as data, for == -/
theorem DRep.thaw {H : Hp} {v : V} {a : Addr} {xs : List Dv} {qs : List PyData} (r : Rep K μ H) (d : DRep K μ H v (.obj a)) (h : μ a = some (.lst xs)) (e : toPys xs = some qs) : Dp K H v (.list qs) := by
  cases d
  obtain ⟨vs, e1, r1⟩ := r _ _ h
  exact .lst (SqL.of e1) (r1.dps e)
theorem d_eqDO {x : Dv} {a : Addr} {xs : List Dv} {p : PyData} {qs : List PyData} (hx : toPy x = some p) (ha : μ a = some (.lst xs)) (hy : toPys xs = some qs) (sp : SeqAt.shaped p = true) (sq : SeqAt.shaped (.list qs) = true) (h : k (.bl (PyData.eqv p (.list qs))) μ) : DOp K (rEqA K) x (.obj a) μ k := fun u v H Q r du dv t =>
  .inr ⟨p, _, du.dp hx, dv.thaw r ha hy, sp, sq, tl_pure t h r (.bl _)⟩
theorem d_neDO {x : Dv} {a : Addr} {xs : List Dv} {p : PyData} {qs : List PyData} (hx : toPy x = some p) (ha : μ a = some (.lst xs)) (hy : toPys xs = some qs) (sp : SeqAt.shaped p = true) (sq : SeqAt.shaped (.list qs) = true) (h : k (.bl (!PyData.eqv p (.list qs))) μ) : DOp K (rNeA K) x (.obj a) μ k := fun u v H Q r du dv t =>
  .inr ⟨p, _, du.dp hx, dv.thaw r ha hy, sp, sq, tl_pure t h r (.bl _)⟩
def isNonD : Dv → Bool
  | .non => true
  | _ => false
theorem isNonD_dec {d : Dv} {u : V} {H : Hp} (r : DRep K μ H u d) : decide (u = V.non) = isNonD d := by cases r <;> rfl
theorem je_is (h : JE X W KE a n μ fun x μ1 => JE X W KE b n μ1 fun y μ2 => DOp X.K (fun x y H Q => y = .non ∧ Q (.bl (decide (x = .non))) H) x y μ2 k) (hm : behindInMarks .Is b = false := by exact nomark _) : JE X W KE (.Compare a [.Is] [b] pos) n μ k := je_cmp op_isN hm h
theorem je_isnot (h : JE X W KE a n μ fun x μ1 => JE X W KE b n μ1 fun y μ2 => DOp X.K (fun x y H Q => y = .non ∧ Q (.bl (!decide (x = .non))) H) x y μ2 k) (hm : behindInMarks .IsNot b = false := by exact nomark _) : JE X W KE (.Compare a [.IsNot] [b] pos) n μ k := je_cmp op_notN hm h
theorem d_isN {x : Dv} (h : k (.bl (isNonD x)) μ) : DOp K (fun x y H Q => y = .non ∧ Q (.bl (decide (x = .non))) H) x .non μ k := fun u v H Q r du dv t => by
  cases dv
  exact ⟨rfl, by rw [isNonD_dec du]; exact tl_pure t h r (.bl _)⟩
theorem d_isnotN {x : Dv} (h : k (.bl (!isNonD x)) μ) : DOp K (fun x y H Q => y = .non ∧ Q (.bl (!decide (x = .non))) H) x .non μ k := fun u v H Q r du dv t => by
  cases dv
  exact ⟨rfl, by rw [isNonD_dec du]; exact tl_pure t h r (.bl _)⟩

/-! ### subscripts -/
theorem DReps.atI {H : Hp} {vs : List V} {ds : List Dv} {i : Int} {d : Dv} (r : DReps K μ H vs ds) (h : L2.atI ds i = some d) : ∃ v, L2.atI vs i = some v ∧ DRep K μ H v d := by
  unfold L2.atI at h ⊢
  rw [r.length]
  cases e : ixN ds.length i with
  | none => rw [e] at h; cases h
  | some j =>
    rw [e] at h
    exact r.get h
theorem je_ix (h : JE X W KE a n μ fun x μ1 => JE X W KE b n μ1 fun y μ2 => DOp X.K (rIx X.K) x y μ2 k) (hs : PlainIx b := by exact fun _ _ => rfl) : JE X W KE (.Subscript a b pos) n μ k :=
  je_of (pe_ix ix_seq peC peC hs) fun σ H Q ev rp t q => by
    refine h σ H _ ev rp t fun u x H1 μ1 h1 s1 r1 d1 => ?_
    refine h1 σ H1 _ (ev.step s1) r1 (t.step s1) fun v y H2 μ2 h2 s2 r2 d2 => ?_
    exact h2 u v H2 Q r2 (d1.step s2) d2 (q.step (s1.trans s2))
theorem d_ixL {x : Dv} {xs : List Dv} {i : Int} {d : Dv} (l : SqD μ x xs) (hi : L2.atI xs i = some d) (h : k d μ) : DOp K (rIx K) x (.int i) μ k := fun u v H Q r du dv t => by
  obtain ⟨a, vs, rfl, ha, ra⟩ := l.rep r du
  cases dv
  obtain ⟨w, e, rw⟩ := ra.atI hi
  exact .inl ⟨a, vs, i, w, rfl, rfl, ha, e, tl_pure t h r rw⟩
theorem d_ixT {xs : List Dv} {i : Int} {d : Dv} (hi : L2.atI xs i = some d) (h : k d μ) : DOp K (rIx K) (.tup xs) (.int i) μ k := fun u v H Q r du dv t => by
  obtain ⟨a, vs, rfl, ha, ra⟩ := tup_rep du
  cases dv
  obtain ⟨w, e, rw⟩ := ra.atI hi
  exact .inr (.inl ⟨a, vs, i, w, rfl, rfl, SqT.of ha, e, tl_pure t h r rw⟩)
/-- a[lo:hi] of a list -/
def JO (X : Cx) (W : WX) (KE : XD) (o : Option Expr) (n : En) (μ : M) (k : Option Int → M → Prop) : Prop := match o with
  | none => k none μ
  | some e => JE X W KE e n μ fun d μ1 => ∃ i, d = .int i ∧ k (some i) μ1
def cO (X : Cx) : Option Expr → TO
  | none => tNoPart
  | some e => tPart (cE X e)
theorem poC {o : Option Expr} : PO X o (cO X o) := by
  cases o with
  | none => exact po_none
  | some e => exact po_some peC
theorem JO.run {o : Option Expr} {ko : Option Int → M → Prop} (h : JO X W KE o n μ ko) {σ : L2.St} {H : Hp} {Q : Option Int → Hp → Prop} (ev : Env X.K μ H σ n) (rp : Rep X.K μ H) (t : Thr X.K W KE μ H)
    (q : ∀ i H' μ', ko i μ' → Step μ H μ' H' → Rep X.K μ' H' → Q i H') : cO X o σ H Q := by
  cases o with
  | none => exact q _ _ μ h (Step.refl _ _) rp
  | some e =>
    refine h σ H _ ev rp t fun u x H1 μ1 h1 s1 r1 d1 => ?_
    obtain ⟨i, rfl, h2⟩ := h1
    cases d1
    exact ⟨i, rfl, q _ _ μ1 h2 s1 r1⟩
def cutD (xs : List Dv) (lo hi : Option Int) : List Dv := (xs.drop (HT.sIx xs.length 0 lo)).take (HT.sIx xs.length xs.length hi - HT.sIx xs.length 0 lo)
theorem DReps.cut {H : Hp} {vs : List V} {ds : List Dv} (r : DReps K μ H vs ds) (lo hi : Option Int) : DReps K μ H (cutV vs lo hi) (cutD ds lo hi) := by
  unfold cutV cutD
  rw [r.length]
  exact (r.drop _).take _
theorem je_slice {lo hi : Option Expr} {p2 : Pos} (h : JE X W KE a n μ fun x μ1 => JO X W KE lo n μ1 fun i μ2 => JO X W KE hi n μ2 fun j μ3 => ∃ xs, SqD μ3 x xs ∧ k (.lst (cutD xs i j)) μ3) : JE X W KE (.Subscript a (.Slice lo hi none p2) pos) n μ k :=
  je_of (pe_slice sl_list peC poC poC) fun σ H Q ev rp t q => by
    refine h σ H _ ev rp t fun u x H1 μ1 h1 s1 r1 d1 => ?_
    refine h1.run (ev.step s1) r1 (t.step s1) fun i H2 μ2 h2 s2 r2 => ?_
    have s12 := s1.trans s2
    refine h2.run (ev.step s12) r2 (t.step s12) fun j H3 μ3 h3 s3 r3 => ?_
    obtain ⟨xs, l, hk⟩ := h3
    obtain ⟨a, vs, rfl, ha, ra⟩ := l.rep r3 (d1.step (s2.trans s3))
    refine ⟨a, vs, rfl, ha, fun p hp => ?_⟩
    exact tl_new (q.step (s12.trans s3)) hk r3 hp (.lst upd_same (r3.free hp) ((ra.cut i j).step (Step.new hp)))
end
end DL

/-! ## Calls, statements, loops, comprehensions, defs -/
namespace DL
open PySem PySem.Spec L2

/-- a def's promise over data: the arguments, the store, what is wanted of the answer, of an exception -/
abbrev XF := Value → List (Str × Dv) → M → Prop
abbrev DSp := List Dv → M → DK → XF → Prop
def toSp (K : Kf) (S : DSp) : Sp := fun vs H Q E => ∃ ds μ kd ke, DReps K μ H vs ds ∧ Rep K μ H ∧ S ds μ kd ke ∧ Tl K μ H kd Q ∧ ∀ cls fs d H' μ', ke cls fs μ' → Step μ H μ' H' → Rep K μ' H' → XRep K μ' H' d fs → E cls d H'
inductive CRels : List Dv → List V → Prop where
  | nil : CRels [] []
  | cons {d : Dv} {v : V} {ds : List Dv} {vs : List V} (h : CRel d v) (t : CRels ds vs) : CRels (d :: ds) (v :: vs)
theorem CRels.rep {K : Kf} {μ : M} {H : Hp} : ∀ {ds : List Dv} {vs : List V}, CRels ds vs → DReps K μ H vs ds
  | _, _, .nil => .nil
  | _, _, .cons h t => .cons h.rep t.rep
/-- what stands at f keeps the promise S (dvs: the defaults that fill up) -/
structure DFn (P : Program) (w : World) (K : Kf) (mg : Str → Option Value) (base : Heap) (k : Nat) (f : Addr) (S : DSp) (dvs : List Dv) : Prop where
  ex : ∃ (fd : FuncData) (ps : List Str) (ds : List Value) (vs : List V), FnOk P w K mg base (L2.CX P w) k f fd ps (toSp K S) ∧ Binds K fd ps ds ∧ Vals vs ds ∧ CRels dvs vs
structure DCal (P : Program) (w : World) (K : Kf) (mg : Str → Option Value) (base : Heap) (k : Nat) (x : Str) (S : DSp) (dvs : List Dv) : Prop where
  ex : ∃ f : Addr, DFn P w K mg base k f S dvs ∧ mg x = some (.ref f) ∧ PySem.W.keepIn K (.ref f) = true
structure DMet (P : Program) (w : World) (K : Kf) (mg : Str → Option Value) (base : Heap) (k : Nat) (C : Addr) (m : Str) (S : DSp) (dvs : List Dv) : Prop where
  ex : ∃ f : Addr, DFn P w K mg base k f S dvs ∧ Cls K C ∧ Meth K C m f
structure DMak (P : Program) (w : World) (K : Kf) (mg : Str → Option Value) (base : Heap) (k : Nat) (x : Str) (C : Addr) (S : DSp) (dvs : List Dv) : Prop where
  ex : ∃ f : Addr, DFn P w K mg base k f S dvs ∧ Mk K C f ∧ mg x = some (.ref C)
section
variable {X : Cx} {W : WX} {KE : XD} {e a b c o : Expr} {es rest : List Expr} {n : En} {μ : M} {k : DK} {pos p apos : Pos} {x m : Str} {K : Kf} {kl j : Nat} {S : DSp} {dvs : List Dv}
theorem DFn.mono {P : Program} {w : World} {mg : Str → Option Value} {base : Heap} {f : Addr} (h : DFn P w K mg base j f S dvs) (l : j ≤ kl) : DFn P w K mg base kl f S dvs := by
  obtain ⟨fd, ps, ds, vs, F, r⟩ := h.ex
  exact ⟨fd, ps, ds, vs, F.mono l, r⟩
/-- the callee runs, data in, data out -/
theorem run_data {f : Addr} {args : List Dv} {σ : L2.St} {H : Hp} {Q : VK} {vs : List V} {us : List Value} {pins : List (Addr × Obj)} {s : Shared} (c : Cok kl X W) (F : DFn X.prog X.w X.K X.mg X.base j f S dvs) (hj : j ≤ kl) (ev : Env X.K μ H σ n) (rp : Rep X.K μ H) (t : Thr X.K W KE μ H) (q : Tl X.K μ H k Q)
    (d : DReps X.K μ H vs args) (I : Inv X pins σ H s) (r : Vals vs us) (h : S (args ++ dvs) μ k (fun cls fs μ' => KE cls fs n μ')) : wpAny (model X.prog X.w) X.A (call (.ref f) us) (EP X pins σ Q) X.xe s := by
  obtain ⟨fd, ps, ds, dv, F, hb, hd, hc⟩ := F.ex
  refine run_fnSD (F.mono hj) c.room hb hd (passAt c.tk σ) I r ⟨args ++ dvs, μ, k, _, d.append hc.rep, rp, h, q, fun cls fs d' H' μ' h1 s1 r1 x1 => ?_⟩
  exact t cls fs d' σ n H' μ' h1 (ev.step s1) s1 r1 x1
theorem je_call (c : Cok kl X W) (F : DCal X.prog X.w X.K X.mg X.base j x S dvs) (hj : j ≤ kl) (h : JA X W KE (e :: es) n μ fun args μ1 => S (args ++ dvs) μ1 k (fun cls fs μ' => KE cls fs n μ')) (hg : Gl X x := by rfl)
    (hdb : (x == ("__debug__" : Str)) = false := by decide) (he : starEach (e :: es) X.env = (false, eval e X.env) :: starEach es X.env := by rfl) (hpl : (backTo pos (starEach es X.env)).any (·.1) = false := by rfl) :
    JE X W KE (.Call (.Name x p) (e :: es) [] pos) n μ k := fun σ H Q ev rp t q pins s I => by
  obtain ⟨f, F, hm, hk⟩ := F.ex
  refine wpAny_Call_Name_kw (ld_glob I hg hm ?_ hdb)
  refine PySem.W.callWith_K (h₀ := X.base) I.ok.mod.kin hk (thn (h σ H _ ev rp t (fun us xs H1 μ1 h1 s1 r1 d1 => show (fun vs H1 => ∃ args μ1, S (args ++ dvs) μ1 k (fun cls fs μ' => KE cls fs n μ') ∧ Step μ H μ1 H1 ∧ Rep X.K μ1 H1 ∧ DReps X.K μ1 H1 vs args) us H1 from ⟨xs, μ1, h1, s1, r1, d1⟩) pos pins s I) fun us s1 ⟨vs, H1, I1, r, args, μ1, h1, s1, r1, d1⟩ => ⟨I1.kIn, ?_⟩) he hpl
  exact run_data c F hj (ev.step s1) r1 (t.step s1) (q.step s1) d1 I1 r h1
theorem je_call0 (c : Cok kl X W) (F : DCal X.prog X.w X.K X.mg X.base j x S dvs) (hj : j ≤ kl) (h : S dvs μ k (fun cls fs μ' => KE cls fs n μ')) (hg : Gl X x := by rfl) (hdb : (x == ("__debug__" : Str)) = false := by decide) :
    JE X W KE (.Call (.Name x p) [] [] pos) n μ k := fun σ H Q ev rp t q pins s I => by
  obtain ⟨f, F, hm, hk⟩ := F.ex
  refine wpAny_Call_Name_kw (ld_glob I hg hm ?_ hdb)
  exact PySem.W.callWith_K0 I.kIn hk (run_data (us := []) (args := []) c F hj ev rp t q .nil I .nil h)
theorem je_meth {pl : Sem Bool} (c : Cok kl X W) (h : JE X W KE o n μ fun d μ1 => ∃ C fs S dvs j, InsD μ1 d C fs ∧ fs.lookup m = none ∧ DMet X.prog X.w X.K X.mg X.base j C m S dvs ∧ j ≤ kl ∧ JA X W KE (e :: es) n μ1 fun args μ2 => S (d :: (args ++ dvs)) μ2 k (fun cls fs μ' => KE cls fs n μ'))
    (hst : starEach (e :: es) X.env = (false, eval e X.env) :: starEach es X.env := by rfl) (hpl : (backTo pos (starEach es X.env)).any (·.1) = false := by rfl)
    (ht : eval (.Call (.Attribute o m apos) (e :: es) [] pos) X.env = (do
      let ov ← eval o X.env
      standAt apos.atName
      let (f, first) ← holding [ov] (getMethod ov m pl)
      callWith pos f first (backTo pos (starEach (e :: es) X.env)) (backToKw pos (keywordEach [] X.env))) := by rfl) :
    JE X W KE (.Call (.Attribute o m apos) (e :: es) [] pos) n μ k := fun σ H Q ev rp t q pins s I => by
  refine PySem.W.methodCall_KW (pl := pl) (thn (h σ H (fun v H1 => ∃ d μ1, (∃ C fs S dvs j, InsD μ1 d C fs ∧ fs.lookup m = none ∧ DMet X.prog X.w X.K X.mg X.base j C m S dvs ∧ j ≤ kl ∧ JA X W KE (e :: es) n μ1 fun args μ2 => S (d :: (args ++ dvs)) μ2 k (fun cls fs μ' => KE cls fs n μ')) ∧ Step μ H μ1 H1 ∧ Rep X.K μ1 H1 ∧ DRep X.K μ1 H1 v d) ev rp t (fun v d H1 μ1 h1 s1 r1 d1 => ⟨d, μ1, h1, s1, r1, d1⟩) pins s I) fun u s1 ⟨v, H1, I1, rx, d, μ1, ⟨C, fs, S, dvs, j, i1, l1, F, hj, h1⟩, st1, r1, d1⟩ => ?_) ht
  obtain ⟨a, dx, vf, rfl, ea, fr⟩ := i1.rep r1 d1
  obtain rfl : u = Value.ref a := rx
  obtain ⟨f, F, cl, hm⟩ := F.ex
  refine getmeth_ok I1 ea cl hm (fr.none l1) ?_
  refine PySem.W.callWith_K (first := [.ref a]) (h₀ := X.base) I.ok.mod.kin hm.kp (thn (h1 σ H1 (fun vs H2 => ∃ args μ2, S (d :: (args ++ dvs)) μ2 k (fun cls fs μ' => KE cls fs n μ') ∧ Step μ1 H1 μ2 H2 ∧ Rep X.K μ2 H2 ∧ DReps X.K μ2 H2 vs args) (ev.step st1) r1 (t.step st1) (fun us xs H2 μ2 h2 s2 r2 d2 => ⟨xs, μ2, h2, s2, r2, d2⟩) pos pins s1 I1) fun us s2 ⟨vs, H2, I2, r, args, μ2, h2, st2, r2, d2⟩ => ⟨I2.kIn, ?_⟩) hst hpl
  have s12 := st1.trans st2
  exact run_data (us := .ref a :: us) (vs := .ref a :: vs) (args := d :: args) c F hj (ev.step s12) r2 (t.step s12) (q.step s12) (.cons (d1.step st2) d2) I2 (.cons rfl r) h2
theorem je_meth0 {pl : Sem Bool} (c : Cok kl X W) (h : JE X W KE o n μ fun d μ1 => ∃ C fs S dvs j, InsD μ1 d C fs ∧ fs.lookup m = none ∧ DMet X.prog X.w X.K X.mg X.base j C m S dvs ∧ j ≤ kl ∧ S (d :: dvs) μ1 k (fun cls fs μ' => KE cls fs n μ'))
    (ht : eval (.Call (.Attribute o m apos) [] [] pos) X.env = (do
      let ov ← eval o X.env
      standAt apos.atName
      let (f, first) ← holding [ov] (getMethod ov m pl)
      callWith pos f first (backTo pos (starEach [] X.env)) (backToKw pos (keywordEach [] X.env))) := by rfl) :
    JE X W KE (.Call (.Attribute o m apos) [] [] pos) n μ k := fun σ H Q ev rp t q pins s I => by
  refine PySem.W.methodCall_KW (pl := pl) (thn (h σ H (fun v H1 => ∃ d μ1, (∃ C fs S dvs j, InsD μ1 d C fs ∧ fs.lookup m = none ∧ DMet X.prog X.w X.K X.mg X.base j C m S dvs ∧ j ≤ kl ∧ S (d :: dvs) μ1 k (fun cls fs μ' => KE cls fs n μ')) ∧ Step μ H μ1 H1 ∧ Rep X.K μ1 H1 ∧ DRep X.K μ1 H1 v d) ev rp t (fun v d H1 μ1 h1 s1 r1 d1 => ⟨d, μ1, h1, s1, r1, d1⟩) pins s I) fun u s1 ⟨v, H1, I1, rx, d, μ1, ⟨C, fs, S, dvs, j, i1, l1, F, hj, h1⟩, st1, r1, d1⟩ => ?_) ht
  obtain ⟨a, dx, vf, rfl, ea, fr⟩ := i1.rep r1 d1
  obtain rfl : u = Value.ref a := rx
  obtain ⟨f, F, cl, hm⟩ := F.ex
  refine getmeth_ok I1 ea cl hm (fr.none l1) ?_
  exact PySem.W.callWith_K0 (first := [.ref a]) I1.kIn hm.kp (run_data (us := [.ref a]) (vs := [.ref a]) (args := [d]) c F hj (ev.step st1) r1 (t.step st1) (q.step st1) (.one d1) I1 (.cons rfl .nil) h1)
/-- the new object as it is from now on: mutable, or data -/
def MkEnd (μ : M) (a : Addr) (k : DK) : Prop := k (.obj a) μ ∨ ∃ C fs, μ a = some (.ins C fs) ∧ k (.ins C fs) (delM μ a)
theorem run_makeSD {CX : CXT} {k : Nat} {f C : Addr} {fd : FuncData} {ps : List Str} {sp : Sp} {dv : List V} {ds : List Value} {E : XK} {pins : List (Addr × Obj)} {σ : L2.St} {H : Hp} {s : Shared} {Q : VK} {us : List Value} {vs : List V} (M : Mk X.K C f) (F : FnOk X.prog X.w X.K X.mg X.base CX k f fd ps sp) (hr : Room (k + 1) X.A) (hb : Binds X.K fd ps ds) (hd : Vals dv ds)
    (hx : PassesAt CX X σ E) (I : Inv X pins σ H s) (r : Vals vs us)
    (h : ∀ x dx, H x = none → H dx = none → dx ≠ x → sp (.ref x :: (vs ++ dv)) (upd (upd H dx (.own x)) x (.ins C dx [])) (fun v H2 => v = .non ∧ Q (.ref x) H2) E) :
    wpAny (model X.prog X.w) X.A (call (.ref C) us) (EP X pins σ Q) X.xe s := by
  have hq := h (s.heap.objs.size + 1) s.heap.objs.size (I.hok.fresh (Nat.le_succ _)) (I.hok.fresh (Nat.le_refl _)) (Nat.ne_of_lt (Nat.lt_succ_self _))
  have I2 := Inv.made (C := C) I
  have r2 : Vals (V.ref (s.heap.objs.size + 1) :: (vs ++ dv)) (Value.ref (s.heap.objs.size + 1) :: (us ++ ds)) := .cons rfl (r.append hd)
  have hl : (Value.ref (s.heap.objs.size + 1) :: us ++ ds).length = ps.length := by
    have e := r2.length
    rw [F.len _ _ _ _ hq] at e
    exact e.symm
  refine wpAny_call (make_map (f := f) I.kIn M.makes M.init (beq_iff_eq.mp M.fn) (codeAny_mono (F.run _ X.stack _ _ ⟨Value.ref (s.heap.objs.size + 1) :: us, []⟩ (Value.ref (s.heap.objs.size + 1) :: (us ++ ds)) _ _ E (hr.make C us [])
    (I2.env0.make C us []) (hb _ (Value.ref (s.heap.objs.size + 1) :: us) I2.kIn hl) r2 hq) fun r s' hq' => ?_))
  cases r with
  | error e => exact hx pins _ _ e s' I2 hq'
  | ok fl =>
    cases fl with
    | ret u =>
      obtain ⟨v, H', I3, rv, ev, q3⟩ := I2.after hq'
      subst ev
      exact ⟨rv, ⟨V.ref (s.heap.objs.size + 1), H', I3, rfl, q3⟩⟩
    | next => exact False.elim hq'
    | brk => exact False.elim hq'
    | cont => exact False.elim hq'
theorem run_make_data {C : Addr} {args : List Dv} {σ : L2.St} {H : Hp} {Q : VK} {vs : List V} {us : List Value} {pins : List (Addr × Obj)} {s : Shared} {f : Addr} (c : Cok kl X W) (M : Mk X.K C f) (F : DFn X.prog X.w X.K X.mg X.base j f S dvs) (hj : j + 1 ≤ kl) (ev : Env X.K μ H σ n) (rp : Rep X.K μ H) (t : Thr X.K W KE μ H) (q : Tl X.K μ H k Q)
    (d : DReps X.K μ H vs args) (I : Inv X pins σ H s) (r : Vals vs us) (h : ∀ a, μ a = none → S (.obj a :: (args ++ dvs)) (updM μ a (.ins C [])) (fun r μ2 => r = .non ∧ MkEnd μ2 a k) (fun cls fs μ' => KE cls fs n μ')) :
    wpAny (model X.prog X.w) X.A (call (.ref C) us) (EP X pins σ Q) X.xe s := by
  obtain ⟨fd, ps, ds, dv, F, hb, hd, hc⟩ := F.ex
  refine run_makeSD M F (c.room.mono hj) hb hd (passAt c.tk σ) I r fun x dx nx nd ne => ?_
  have sA : Step μ H μ (upd H dx (.own x)) := Step.new nd
  have nx1 : upd H dx (.own x) x = none := by rw [upd_ne ne.symm]; exact nx
  have sB : Step μ (upd H dx (.own x)) (updM μ x (.ins C [])) (upd (upd H dx (.own x)) x (.ins C dx [])) := Step.newM nx1
  have sAB := sA.trans sB
  have r2 : Rep X.K (updM μ x (.ins C [])) (upd (upd H dx (.own x)) x (.ins C dx [])) := (rp.new nd).put sB ⟨dx, [], upd_same, .nil⟩
  refine ⟨.obj x :: (args ++ dvs), _, _, _, .cons (.obj x) ((d.step sAB).append hc.rep), r2, h x (rp.free nx), fun v d' H' μ' hk s1 r1 d1 => ?_, fun cls fs d' H' μ' h1 s1 r1 x1 => ?_⟩
  · obtain ⟨rfl, hk⟩ := hk
    cases d1
    refine ⟨rfl, ?_⟩
    rcases hk with hk | ⟨C', fs, ha, hk⟩
    · exact q _ _ _ _ hk (sAB.trans s1) r1 (.obj x)
    · obtain ⟨dx', vf, e, fr⟩ := r1 _ _ ha
      exact q _ _ _ _ hk ((sAB.trans s1).trans Step.freeze) r1.freeze (.ins e delM_same (fr.step Step.freeze))
  · exact t cls fs d' σ n H' μ' h1 (ev.step (sAB.trans s1)) (sAB.trans s1) r1 x1
theorem je_make {C : Addr} (c : Cok kl X W) (F : DMak X.prog X.w X.K X.mg X.base j x C S dvs) (hj : j + 1 ≤ kl) (h : JA X W KE (e :: es) n μ fun args μ1 => ∀ a, μ1 a = none → S (.obj a :: (args ++ dvs)) (updM μ1 a (.ins C [])) (fun r μ2 => r = .non ∧ MkEnd μ2 a k) (fun cls fs μ' => KE cls fs n μ')) (hg : Gl X x := by rfl)
    (hdb : (x == ("__debug__" : Str)) = false := by decide) (he : starEach (e :: es) X.env = (false, eval e X.env) :: starEach es X.env := by rfl) (hpl : (backTo pos (starEach es X.env)).any (·.1) = false := by rfl) :
    JE X W KE (.Call (.Name x p) (e :: es) [] pos) n μ k := fun σ H Q ev rp t q pins s I => by
  obtain ⟨f, F, M, hm⟩ := F.ex
  refine wpAny_Call_Name_kw (ld_glob I hg hm ?_ hdb)
  refine PySem.W.callWith_K (h₀ := X.base) I.ok.mod.kin M.kp (thn (h σ H (fun vs H1 => ∃ args μ1, (∀ a, μ1 a = none → S (.obj a :: (args ++ dvs)) (updM μ1 a (.ins C [])) (fun r μ2 => r = .non ∧ MkEnd μ2 a k) (fun cls fs μ' => KE cls fs n μ')) ∧ Step μ H μ1 H1 ∧ Rep X.K μ1 H1 ∧ DReps X.K μ1 H1 vs args) ev rp t (fun us xs H1 μ1 h1 s1 r1 d1 => ⟨xs, μ1, h1, s1, r1, d1⟩) pos pins s I) fun us s1 ⟨vs, H1, I1, r, args, μ1, h1, s1, r1, d1⟩ => ⟨I1.kIn, ?_⟩) he hpl
  exact run_make_data c M F hj (ev.step s1) r1 (t.step s1) (q.step s1) d1 I1 r h1
theorem je_make0 {C : Addr} (c : Cok kl X W) (F : DMak X.prog X.w X.K X.mg X.base j x C S dvs) (hj : j + 1 ≤ kl) (h : ∀ a, μ a = none → S (.obj a :: dvs) (updM μ a (.ins C [])) (fun r μ2 => r = .non ∧ MkEnd μ2 a k) (fun cls fs μ' => KE cls fs n μ')) (hg : Gl X x := by rfl) (hdb : (x == ("__debug__" : Str)) = false := by decide) :
    JE X W KE (.Call (.Name x p) [] [] pos) n μ k := fun σ H Q ev rp t q pins s I => by
  obtain ⟨f, F, M, hm⟩ := F.ex
  refine wpAny_Call_Name_kw (ld_glob I hg hm ?_ hdb)
  exact PySem.W.callWith_K0 I.kIn M.kp (run_make_data (us := []) (args := []) c M F hj ev rp t q .nil I .nil h)

/-! ### built-in functions -/
theorem je_cB {id : String} {r : List V → Hp → VK → Prop} (hc : CallR X (.builtin id) r) (hm : X.mg x = none) (hv : bootBuiltins x = some (.builtin id)) (h : JA X W KE (e :: es) n μ fun xs μ1 => DCl X.K r xs μ1 k) (hg : Gl X x := by rfl) (hn : x ≠ "__name__" := by decide)
    (hdb : (x == ("__debug__" : Str)) = false := by decide) (he : starEach (e :: es) X.env = (false, eval e X.env) :: starEach es X.env := by rfl) (hpl : (backTo pos (starEach es X.env)).any (·.1) = false := by rfl) : JE X W KE (.Call (.Name x p) (e :: es) [] pos) n μ k :=
  je_of (pe_callB hc hg hm hv paC hn hdb he hpl) fun σ H Q ev rp t q => by
    refine h σ H _ ev rp t fun us xs H1 μ1 h1 s1 r1 d1 => ?_
    exact h1 us H1 Q r1 d1 (q.step s1)
theorem je_cT {T : String} {r : List V → Hp → VK → Prop} (hc : CallR X (.type T) r) (hm : X.mg x = none) (hv : bootBuiltins x = some (.type T)) (h : JA X W KE (e :: es) n μ fun xs μ1 => DCl X.K r xs μ1 k) (hg : Gl X x := by rfl) (hn : x ≠ "__name__" := by decide)
    (hdb : (x == ("__debug__" : Str)) = false := by decide) (he : starEach (e :: es) X.env = (false, eval e X.env) :: starEach es X.env := by rfl) (hpl : (backTo pos (starEach es X.env)).any (·.1) = false := by rfl) : JE X W KE (.Call (.Name x p) (e :: es) [] pos) n μ k :=
  je_of (pe_callTy hc hg hm hv paC hn hdb he hpl) fun σ H Q ev rp t q => by
    refine h σ H _ ev rp t fun us xs H1 μ1 h1 s1 r1 d1 => ?_
    exact h1 us H1 Q r1 d1 (q.step s1)
def rLenA (K : Kf) : List V → Hp → VK → Prop := fun xs H Q => (∃ p ys, xs = [.ref p] ∧ (SqL K H p ys ∨ SqT K H p ys) ∧ Q (.int ys.length) H) ∨ ∃ z, xs = [.str z] ∧ z.length ≤ sizeLine ∧ Q (.int z.length) H
theorem call_lenA : CallR X (.builtin "len") (rLenA X.K) := CallR.or call_len_seq call_len_str
theorem d_lenL {x : Dv} {xs : List Dv} (l : SqD μ x xs) (h : k (.int xs.length) μ) : DCl K (rLenA K) [x] μ k := fun us H Q r d t => by
  cases d with
  | cons d0 d1 =>
    cases d1
    obtain ⟨a, vs, rfl, ha, ra⟩ := l.rep r d0
    exact .inl ⟨a, vs, rfl, .inl ha, tl_pure t h r (by rw [ra.length]; exact .int _)⟩
theorem d_lenT {xs : List Dv} (h : k (.int xs.length) μ) : DCl K (rLenA K) [.tup xs] μ k := fun us H Q r d t => by
  cases d with
  | cons d0 d1 =>
    cases d1
    obtain ⟨a, vs, rfl, ha, ra⟩ := tup_rep d0
    exact .inl ⟨a, vs, rfl, .inr (SqT.of ha), tl_pure t h r (by rw [ra.length]; exact .int _)⟩
theorem d_lenS {z : Str} (hz : z.length ≤ sizeLine) (h : k (.int z.length) μ) : DCl K (rLenA K) [.str z] μ k := fun us H Q r d t => by
  cases d with
  | cons d0 d1 =>
    cases d1; cases d0
    exact .inr ⟨z, rfl, hz, tl_pure t h r (.int _)⟩
theorem d_max2 {i j : Int} (h : k (.int (max i j)) μ) : DCl K (fun xs H Q => ∃ i j, xs = [V.int i, .int j] ∧ Q (.int (if j > i then j else i)) H) [.int i, .int j] μ k := fun us H Q r d t => by
  cases d with
  | cons d0 d1 =>
    cases d1 with
    | cons d1 d2 =>
      cases d2; cases d0; cases d1
      have e : (if j > i then j else i) = max i j := by omega
      exact ⟨i, j, rfl, by rw [e]; exact tl_pure t h r (.int _)⟩
theorem d_min2 {i j : Int} (h : k (.int (min i j)) μ) : DCl K (fun xs H Q => ∃ i j, xs = [V.int i, .int j] ∧ Q (.int (if j < i then j else i)) H) [.int i, .int j] μ k := fun us H Q r d t => by
  cases d with
  | cons d0 d1 =>
    cases d1 with
    | cons d1 d2 =>
      cases d2; cases d0; cases d1
      have e : (if j < i then j else i) = min i j := by omega
      exact ⟨i, j, rfl, by rw [e]; exact tl_pure t h r (.int _)⟩
theorem d_sum {x : Dv} {ns : List Int} (l : SqD μ x (ns.map Dv.int)) (h : k (.int ns.sum) μ) : DCl K (rSum K) [x] μ k := fun us H Q r d t => by
  cases d with
  | cons d0 d1 =>
    cases d1
    obtain ⟨a, vs, rfl, ha, ra⟩ := l.rep r d0
    have e := ra.ints
    subst e
    exact ⟨a, ns, rfl, ha, tl_pure t h r (.int _)⟩
theorem d_maxL {x : Dv} {ns : List Int} (l : SqD μ x (ns.map Dv.int)) (hn : 0 < ns.length) (h : ∀ m, m ∈ ns → (∀ y ∈ ns, y ≤ m) → k (.int m) μ) : DCl K (rMax K) [x] μ k := fun us H Q r d t => by
  cases d with
  | cons d0 d1 =>
    cases d1
    obtain ⟨a, vs, rfl, ha, ra⟩ := l.rep r d0
    have e := ra.ints
    subst e
    exact ⟨a, ns, rfl, ha, hn, fun m h1 h2 => tl_pure t (h m h1 h2) r (.int _)⟩
theorem d_minL {x : Dv} {ns : List Int} (l : SqD μ x (ns.map Dv.int)) (hn : 0 < ns.length) (h : ∀ m, m ∈ ns → (∀ y ∈ ns, m ≤ y) → k (.int m) μ) : DCl K (rMin K) [x] μ k := fun us H Q r d t => by
  cases d with
  | cons d0 d1 =>
    cases d1
    obtain ⟨a, vs, rfl, ha, ra⟩ := l.rep r d0
    have e := ra.ints
    subst e
    exact ⟨a, ns, rfl, ha, hn, fun m h1 h2 => tl_pure t (h m h1 h2) r (.int _)⟩
theorem d_all {x : Dv} {bs : List Bool} (l : SqD μ x (bs.map Dv.bl)) (h : k (.bl (bs.all id)) μ) : DCl K (rAll K) [x] μ k := fun us H Q r d t => by
  cases d with
  | cons d0 d1 =>
    cases d1
    obtain ⟨a, vs, rfl, ha, ra⟩ := l.rep r d0
    have e := ra.bls
    subst e
    exact ⟨a, bs, rfl, ha, tl_pure t h r (.bl _)⟩
theorem d_listOf {x : Dv} {xs : List Dv} (l : SqD μ x xs) (h : k (.lst xs) μ) : DCl K (fun ys H Q => ∃ p zs, ys = [V.ref p] ∧ (SqL K H p zs ∨ SqT K H p zs) ∧ ∀ l, H l = none → Q (.ref l) (upd H l (.lst zs))) [x] μ k := fun us H Q r d t => by
  cases d with
  | cons d0 d1 =>
    cases d1
    obtain ⟨a, vs, rfl, ha, ra⟩ := l.rep r d0
    exact ⟨a, vs, rfl, .inl ha, fun p hp => tl_new t h r hp (.lst upd_same (r.free hp) (ra.step (Step.new hp)))⟩
theorem d_listOfT {xs : List Dv} (h : k (.lst xs) μ) : DCl K (fun ys H Q => ∃ p zs, ys = [V.ref p] ∧ (SqL K H p zs ∨ SqT K H p zs) ∧ ∀ l, H l = none → Q (.ref l) (upd H l (.lst zs))) [.tup xs] μ k := fun us H Q r d t => by
  cases d with
  | cons d0 d1 =>
    cases d1
    obtain ⟨a, vs, rfl, ha, ra⟩ := tup_rep d0
    exact ⟨a, vs, rfl, .inr (SqT.of ha), fun p hp => tl_new t h r hp (.lst upd_same (r.free hp) (ra.step (Step.new hp)))⟩
/-- int(..) of an int, a bool -/
theorem d_intI {i : Int} (h : k (.int i) μ) : DCl K (fun xs H Q => (∃ i, xs = [V.int i] ∧ Q (.int i) H) ∨ ∃ k, xs = [.bl k] ∧ Q (.int (if k then 1 else 0)) H) [.int i] μ k := fun us H Q r d t => by
  cases d with
  | cons d0 d1 =>
    cases d1; cases d0
    exact .inl ⟨i, rfl, tl_pure t h r (.int _)⟩
theorem d_intB {i : Bool} (h : k (.int (if i then 1 else 0)) μ) : DCl K (fun xs H Q => (∃ i, xs = [V.int i] ∧ Q (.int i) H) ∨ ∃ k, xs = [.bl k] ∧ Q (.int (if k then 1 else 0)) H) [.bl i] μ k := fun us H Q r d t => by
  cases d with
  | cons d0 d1 =>
    cases d1; cases d0
    exact .inr ⟨i, rfl, tl_pure t h r (.int _)⟩
/-- isinstance -/
inductive TyD (K : Kf) (μ : M) : Dv → Value → Prop where
  | non : TyD K μ .non (.type "NoneType")
  | bl (b : Bool) : TyD K μ (.bl b) (.type "bool")
  | int (i : Int) : TyD K μ (.int i) (.type "int")
  | str (x : Str) : TyD K μ (.str x) (.type "str")
  | lst (xs : List Dv) : TyD K μ (.lst xs) (.type "list")
  | tup (xs : List Dv) : TyD K μ (.tup xs) (.type "tuple")
  | lstM {a : Addr} {xs : List Dv} (h : μ a = some (.lst xs)) : TyD K μ (.obj a) (.type "list")
  | dicM {a : Addr} {xs : List (Key × Dv)} (h : μ a = some (.dic xs)) : TyD K μ (.obj a) (.type "dict")
  | ins {d : Dv} {C : Addr} {fs : List (Str × Dv)} (i : InsD μ d C fs) (cl : Cls K C) (ha : PySem.W.findIn K (.ref C) "__class__" = some (some (.builtin "object.__class__")))
      (hn : PySem.W.specialIn K (.builtin "object.__class__") "__get__" = some (some (.builtin "getset_descriptor.__get__"))) (htk : PySem.W.takesIn K (.builtin "object.__class__") = some true)
      (hm : PySem.W.mroIn K C (.type "object") = some true) : TyD K μ d (.ref C)
theorem TyD.rep {x : Dv} {t : Value} {H : Hp} {u : V} (h : TyD K μ x t) (r : Rep K μ H) (d : DRep K μ H u x) : TyX K H u t := by
  cases h with
  | non => cases d; exact .base .non
  | bl b => cases d; exact .base (.bl b)
  | int b => cases d; exact .base (.int b)
  | str b => cases d; exact .base (.str b)
  | lst xs => cases d with | lst h n r => exact .base (.lst h)
  | tup xs => cases d with | tup h n r => exact .base (.tup h)
  | lstM h => cases d; obtain ⟨vs, e, _⟩ := r _ _ h; exact .base (.lst e)
  | dicM h => cases d; obtain ⟨vs, e, _⟩ := r _ _ h; exact .base (.dK e)
  | ins i cl ha hn htk hm =>
    obtain ⟨a, dx, vs, rfl, e, _⟩ := i.rep r d
    exact .base (.ins e cl ha hn htk hm)
/-- a class as data -/
inductive ClD : Dv → Value → Prop where
  | ty (n : String) : ClD (.ty n) (.type n)
  | own (C : Addr) : ClD (.obj C) (.ref C)
theorem ClD.rep {c : Dv} {u : Value} {v : V} {H : Hp} (h : ClD c u) (d : DRep K μ H v c) : ClsV v u := by
  cases h with
  | ty n => cases d; exact .ty n
  | own C => cases d; exact .own C
inductive ClDs : List Dv → List Value → Prop where
  | nil : ClDs [] []
  | cons {c : Dv} {u : Value} {cs : List Dv} {us : List Value} (h : ClD c u) (t : ClDs cs us) : ClDs (c :: cs) (u :: us)
theorem ClDs.rep {H : Hp} : ∀ {cs : List Dv} {us : List Value} {vs : List V}, ClDs cs us → DReps K μ H vs cs → Paired ClsV vs us
  | _, _, _, .nil, .nil => .nil
  | _, _, _, .cons h t, .cons d r => .cons (h.rep d) (t.rep r)
def rIsiA (K : Kf) : List V → Hp → VK → Prop := fun xs H Q => rIsi K xs H Q ∨ rIsiT K xs H Q
theorem call_isiA : CallR X (.builtin "isinstance") (rIsiA X.K) := CallR.or call_isi call_isiT
theorem d_isi {x c : Dv} {t u : Value} {b : Bool} (hx : TyD K μ x t) (hc : ClD c u) (hb : PySem.W.kitOne K t u = some b) (h : k (.bl b) μ) : DCl K (rIsiA K) [x, c] μ k := fun us H Q r d q => by
  cases d with
  | cons d0 d1 =>
    cases d1 with
    | cons d1 d2 =>
      cases d2
      exact .inl ⟨_, _, t, u, b, rfl, hc.rep d1, hx.rep r d0, hb, tl_pure q h r (.bl _)⟩
theorem d_isiT {x : Dv} {cs : List Dv} {t : Value} {us : List Value} {b : Bool} (hx : TyD K μ x t) (hc : ClDs cs us) (hb : PySem.W.kitAny K t us = some b) (h : k (.bl b) μ) : DCl K (rIsiA K) [x, .tup cs] μ k := fun vs H Q r d q => by
  cases d with
  | cons d0 d1 =>
    cases d1 with
    | cons d1 d2 =>
      cases d2
      obtain ⟨a, ws, rfl, ha, ra⟩ := tup_rep d1
      exact .inr ⟨_, a, ws, t, us, b, rfl, ha, hc.rep ra, hx.rep r d0, hb, tl_pure q h r (.bl _)⟩
/-- xs.append(e), xs a mutable list -/
theorem je_append (h : JE X W KE o n μ fun d μ1 => ∃ a, d = .obj a ∧ (∃ xs, μ1 a = some (.lst xs)) ∧ JE X W KE e n μ1 fun y μ2 => ∃ xs, μ2 a = some (.lst xs) ∧ xs.length < sizeLine ∧ k .non (updM μ2 a (.lst (xs ++ [y]))))
    (hs : starEach [e] X.env = (false, eval e X.env) :: starEach [] X.env := by rfl)
    (ht : PE X (.Call (.Attribute o "append" apos) [e] [] pos) (tBM X.K "list" rAppend (cE X o) (cA X [e])) := by exact pe_bm PySem.F.plainAttrs_list PySem.F.slot_list_append PySem.F.type_list_append mt_append peC paC) :
    JE X W KE (.Call (.Attribute o "append" apos) [e] [] pos) n μ k :=
  je_of ht fun σ H Q ev rp t q => by
    refine h σ H _ ev rp t fun u x H1 μ1 h1 s1 r1 d1 => ?_
    obtain ⟨a, rfl, ⟨xs0, hx0⟩, h1⟩ := h1
    cases d1
    obtain ⟨vs0, e0, _⟩ := r1 _ _ hx0
    refine ⟨.inl ⟨rfl, _, SqL.of e0⟩, ?_⟩
    have h1' : JA X W KE [e] n μ1 fun ys μ2 => ∃ y, ys = [y] ∧ ∃ xs, μ2 a = some (.lst xs) ∧ xs.length < sizeLine ∧ k .non (updM μ2 a (.lst (xs ++ [y]))) := ja_one (h1.mono fun y μ2 z => ⟨y, rfl, z⟩) hs
    refine h1' σ H1 _ (ev.step s1) r1 (t.step s1) fun us ys H2 μ2 h2 s2 r2 d2 => ?_
    obtain ⟨y, rfl, xs, hx, hl, hk⟩ := h2
    cases d2 with
    | cons dy dn =>
      rename_i w _
      cases dn
      obtain ⟨vs, e2, rx⟩ := r2 _ _ hx
      have s3 := Step.mut (H := H2) (o := .lst (vs ++ [w])) (u := .lst (xs ++ [y])) hx
      exact ⟨a, vs, w, rfl, rfl, e2, by rw [rx.length]; exact hl, q _ _ _ _ hk ((s1.trans s2).trans s3) (r2.put s3 ⟨_, upd_same, (rx.step s3).append (.one (dy.step s3))⟩) .non⟩
end
end DL

/-! ## Statements, loops, comprehensions, defs -/
namespace DL
open PySem PySem.Spec L2

/-- what is wanted behind a statement, over data -/
structure Ed where
  nx : En → M → Prop
  rt : DK
  bk : En → M → Prop := fun _ _ => False
  ct : En → M → Prop := fun _ _ => False
structure TlS (K : Kf) (μ : M) (H : Hp) (P : Ed) (D : Ends) : Prop where
  nx : ∀ σ' e' H' μ', P.nx e' μ' → Env K μ' H' σ' e' → Step μ H μ' H' → Rep K μ' H' → D.nx σ' H'
  rt : Tl K μ H P.rt D.rt
  bk : ∀ σ' e' H' μ', P.bk e' μ' → Env K μ' H' σ' e' → Step μ H μ' H' → Rep K μ' H' → D.bk σ' H'
  ct : ∀ σ' e' H' μ', P.ct e' μ' → Env K μ' H' σ' e' → Step μ H μ' H' → Rep K μ' H' → D.ct σ' H'
theorem TlS.step {K : Kf} {μ μ1 : M} {H H1 : Hp} {P : Ed} {D : Ends} (s : Step μ H μ1 H1) (t : TlS K μ H P D) : TlS K μ1 H1 P D :=
  ⟨fun σ' e' H' μ' a b c => t.nx σ' e' H' μ' a b (s.trans c), t.rt.step s, fun σ' e' H' μ' a b c => t.bk σ' e' H' μ' a b (s.trans c), fun σ' e' H' μ' a b c => t.ct σ' e' H' μ' a b (s.trans c)⟩
section
variable (X : Cx) (W : WX) (KE : XD)
def JS (st : Stmt) (n : En) (μ : M) (P : Ed) : Prop := ∀ (σ : L2.St) (H : Hp) (D : Ends), Env X.K μ H σ n → Rep X.K μ H → Thr X.K W KE μ H → TlS X.K μ H P D → cS X st D σ H
def JB (st : List Stmt) (n : En) (μ : M) (P : Ed) : Prop := ∀ (σ : L2.St) (H : Hp) (D : Ends), Env X.K μ H σ n → Rep X.K μ H → Thr X.K W KE μ H → TlS X.K μ H P D → cB X st D σ H
end
section
variable {X : Cx} {W : WX} {KE : XD} {e a b c o : Expr} {es rest : List Expr} {st : Stmt} {sts A B : List Stmt} {n : En} {μ : M} {k : DK} {P : Ed} {pos pos' p apos : Pos} {x m f : Str} {K : Kf} {kl j i : Nat}
theorem js_of {t : TS} (h : PS X st t) (q : ∀ (σ : L2.St) (H : Hp) (D : Ends), Env X.K μ H σ n → Rep X.K μ H → Thr X.K W KE μ H → TlS X.K μ H P D → t D σ H) : JS X W KE st n μ P := fun σ H D a b c d pins s I => h.run pins s σ H D I (q σ H D a b c d)
theorem jb_of {t : TS} (h : PSs X sts t) (q : ∀ (σ : L2.St) (H : Hp) (D : Ends), Env X.K μ H σ n → Rep X.K μ H → Thr X.K W KE μ H → TlS X.K μ H P D → t D σ H) : JB X W KE sts n μ P := fun σ H D a b c d pins s I => h.run pins s σ H D I (q σ H D a b c d)
theorem tls_now {σ : L2.St} {H : Hp} {D : Ends} (t : TlS X.K μ H P D) (h : P.nx n μ) (ev : Env X.K μ H σ n) (r : Rep X.K μ H) : D.nx σ H := t.nx σ n H μ h ev (Step.refl _ _) r
theorem jb_nil (h : P.nx n μ) : JB X W KE [] n μ P := jb_of pss_nil fun σ H D ev rp t q => tls_now q h ev rp
theorem jb_cons (h : JS X W KE st n μ { P with nx := fun n' μ' => JB X W KE sts n' μ' P }) (ht : True := trivial) : JB X W KE (st :: sts) n μ P :=
  jb_of (pss_cons psC pbC) fun σ H D ev rp t q => by
    refine h σ H { D with nx := cB X sts D } ev rp t ⟨fun σ' e' H' μ' h1 ev1 s1 r1 => ?_, q.rt, q.bk, q.ct⟩
    exact h1 σ' H' D ev1 r1 (t.step s1) (q.step s1)
theorem jb_one (h : JS X W KE st n μ P) : JB X W KE [st] n μ P := jb_of (pss_one psC) fun σ H D ev rp t q => h σ H D ev rp t q
theorem JB.le {n' : En} (h : JB X W KE sts n' μ P) (l : LeE n n') : JB X W KE sts n μ P := fun σ H D ev rp t q => h σ H D (ev.le l) rp t q
theorem JS.mono {P' : Ed} (h : JS X W KE st n μ P) (h1 : ∀ a b, P.nx a b → P'.nx a b) (h2 : ∀ a b, P.rt a b → P'.rt a b) (h3 : ∀ a b, P.bk a b → P'.bk a b) (h4 : ∀ a b, P.ct a b → P'.ct a b) : JS X W KE st n μ P' := fun σ H D ev rp t q =>
  h σ H D ev rp t ⟨fun _ _ _ _ z => q.nx _ _ _ _ (h1 _ _ z), fun _ _ _ _ z => q.rt _ _ _ _ (h2 _ _ z), fun _ _ _ _ z => q.bk _ _ _ _ (h3 _ _ z), fun _ _ _ _ z => q.ct _ _ _ _ (h4 _ _ z)⟩
theorem JB.mono {P' : Ed} (h : JB X W KE sts n μ P) (h1 : ∀ a b, P.nx a b → P'.nx a b) (h2 : ∀ a b, P.rt a b → P'.rt a b) (h3 : ∀ a b, P.bk a b → P'.bk a b) (h4 : ∀ a b, P.ct a b → P'.ct a b) : JB X W KE sts n μ P' := fun σ H D ev rp t q =>
  h σ H D ev rp t ⟨fun _ _ _ _ z => q.nx _ _ _ _ (h1 _ _ z), fun _ _ _ _ z => q.rt _ _ _ _ (h2 _ _ z), fun _ _ _ _ z => q.bk _ _ _ _ (h3 _ _ z), fun _ _ _ _ z => q.ct _ _ _ _ (h4 _ _ z)⟩
theorem js_pass (h : P.nx n μ) : JS X W KE (.Pass pos) n μ P := js_of ps_pass fun σ H D ev rp t q => tls_now q h ev rp
theorem js_break (h : P.bk n μ) : JS X W KE (.Break pos) n μ P := js_of ps_break fun σ H D ev rp t q => q.bk σ n H μ h ev (Step.refl _ _) rp
theorem js_continue (h : P.ct n μ) : JS X W KE (.Continue pos) n μ P := js_of ps_continue fun σ H D ev rp t q => q.ct σ n H μ h ev (Step.refl _ _) rp
theorem js_set (i : Nat) (c : Cok kl X W) (hi : X.N[i]? = some x) (h : JE X W KE e n μ fun d μ' => P.nx (n.set i (some d)) μ') (hx : Loc X.env.scope x := by first | exact Or.inl rfl | exact Or.inr rfl)
    (hs : swapsWith e (some (.Name x pos')) pos.line X.env = pure false := by rfl) (hf : X.fn x = true ∨ X.env.scope.names.lookup x = some .local := by first | exact .inl rfl | exact .inr rfl) : JS X W KE (.Assign [.Name x pos'] e pos) n μ P :=
  js_of (ps_set c.nd hi hx peC hs hf) fun σ H D ev rp t q => by
    refine h σ H _ ev rp t fun v d H1 μ1 h1 s1 r1 d1 => ?_
    exact q.nx _ _ _ _ h1 ((ev.step s1).set d1 i) s1 r1
theorem js_expr (h : JE X W KE e n μ fun _ μ' => P.nx n μ') (hs : swapsWith e none pos.line X.env = pure false := by rfl) : JS X W KE (.Expr e pos) n μ P :=
  js_of (ps_expr peC hs) fun σ H D ev rp t q => by
    refine h σ H _ ev rp t fun v d H1 μ1 h1 s1 r1 d1 => ?_
    exact q.nx _ _ _ _ h1 (ev.step s1) s1 r1
theorem js_ret (h : JE X W KE e n μ P.rt) : JS X W KE (.Return (some e) pos) n μ P := js_of (ps_ret peC) fun σ H D ev rp t q => h σ H _ ev rp t q.rt
theorem js_retN (h : P.rt .non μ) : JS X W KE (.Return none pos) n μ P := js_of ps_retN fun σ H D ev rp t q => tl_pure q.rt h rp .non
theorem js_if (h : JT X W KE c n μ fun b μ' => (b = true → JB X W KE A n μ' P) ∧ (b = false → JB X W KE B n μ' P)) : JS X W KE (.If c A B pos) n μ P :=
  js_of (ps_if ptC pbC pbC) fun σ H D ev rp t q => by
    refine h σ H _ ev rp t fun u H1 μ1 h1 s1 r1 => ?_
    cases u with
    | true => rw [if_pos rfl]; exact h1.1 rfl σ H1 D (ev.step s1) r1 (t.step s1) (q.step s1)
    | false => rw [if_neg Bool.false_ne_true]; exact h1.2 rfl σ H1 D (ev.step s1) r1 (t.step s1) (q.step s1)
theorem js_augI (i : Nat) {op : Operator} {g : Int → Int → Int} {z : Int} (c : Cok kl X W) (hi : X.N[i]? = some x) (ho : PIp X op (ipI g)) (hn : n[i]? = some (some (.int z))) (h : JE X W KE e n μ fun d μ' => ∃ y, d = .int y ∧ P.nx (n.set i (some (.int (g z y)))) μ')
    (hx : Loc X.env.scope x := by first | exact Or.inl rfl | exact Or.inr rfl) (hf : X.fn x = true ∨ X.env.scope.names.lookup x = some .local := by first | exact .inl rfl | exact .inr rfl) : JS X W KE (.AugAssign (.Name x pos') op e pos) n μ P :=
  js_of (ps_aug c.nd hi hx peC ho hf) fun σ H D ev rp t q => by
    obtain ⟨v, h1, h2⟩ := ev.2 i _ hn
    cases h2
    refine ⟨.int z, h1, ?_⟩
    refine h σ H _ ev rp t fun w d H1 μ1 h1 s1 r1 d1 => ?_
    obtain ⟨y, rfl, h3⟩ := h1
    cases d1
    exact ⟨z, y, rfl, rfl, q.nx _ _ _ _ h3 ((ev.step s1).set (.int _) i) s1 r1⟩
/-- o.f = e, o a mutable instance -/
theorem js_fld (h : JE X W KE e n μ fun y μ1 => JE X W KE o n μ1 fun d μ2 => ∃ a C fs, d = .obj a ∧ μ2 a = some (.ins C fs) ∧ Cls X.K C ∧ NoAttr X.K C f ∧ fs.length < 1000 ∧ P.nx n (updM μ2 a (.ins C (putD f y fs))))
    (hs : swapsWith e (some (.Attribute o f pos')) pos.line X.env = pure false := by rfl) : JS X W KE (.Assign [.Attribute o f pos'] e pos) n μ P :=
  js_of (ps_fld peC peC hs) fun σ H D ev rp t q => by
    refine h σ H _ ev rp t fun w y H1 μ1 h1 s1 r1 d1 => ?_
    refine h1 σ H1 _ (ev.step s1) r1 (t.step s1) fun u d H2 μ2 h2 s2 r2 d2 => ?_
    obtain ⟨a, C, fs, rfl, ha, cl, na, hl, hk⟩ := h2
    cases d2
    obtain ⟨dx, vs, e2, fr⟩ := r2 _ _ ha
    refine ⟨a, C, dx, vs, rfl, e2, cl, na, by rw [fr.length]; exact hl, ?_⟩
    have s3 := Step.mut (H := H2) (o := .ins C dx (putF f w vs)) (u := .ins C (putD f y fs)) ha
    have s123 := (s1.trans s2).trans s3
    exact q.nx _ _ _ _ hk (ev.step s123) s123 (r2.put s3 ⟨dx, _, upd_same, (fr.step s3).put ((d1.step s2).step s3)⟩)
/-- a, b = e and a, b, c = e, e a tuple -/
theorem js_tup2 (i1 i2 : Nat) {x1 x2 : Str} {p1 p2 p3 : Pos} {kk} (c : Cok kl X W) (h1 : X.N[i1]? = some x1) (h2 : X.N[i2]? = some x2)
    (h : JE X W KE e n μ fun d μ' => ∃ d1 d2, d = .tup [d1, d2] ∧ P.nx ((n.set i1 (some d1)).set i2 (some d2)) μ')
    (hl1 : Loc X.env.scope x1 := by first | exact Or.inl rfl | exact Or.inr rfl) (hl2 : Loc X.env.scope x2 := by first | exact Or.inl rfl | exact Or.inr rfl)
    (hf1 : X.fn x1 = true ∨ X.env.scope.names.lookup x1 = some .local := by first | exact .inl rfl | exact .inr rfl) (hf2 : X.fn x2 = true ∨ X.env.scope.names.lookup x2 = some .local := by first | exact .inl rfl | exact .inr rfl)
    (ht : PG X (.Tuple [.Name x1 p1, .Name x2 p2] kk p3) (gTup X.K 2 (gCons (gName i1) (gCons (gName i2) gNil))) := by exact pg_tup (by first | rfl | assumption) (pgs_cons (pg_name (by assumption) (by assumption) (by assumption) (by assumption)) (pgs_cons (pg_name (by assumption) (by assumption) (by assumption) (by assumption)) pgs_nil)))
    (hs : swapsWithSole [.Tuple [.Name x1 p1, .Name x2 p2] kk p3] e pos.line X.env = pure false := by rfl) (hw : swappedStores [.Tuple [.Name x1 p1, .Name x2 p2] kk p3] e X.env = pure none := by rfl)
    (ha : (assignEach [.Tuple [.Name x1 p1, .Name x2 p2] kk p3] X.env).map (·.2) = [assign (.Tuple [.Name x1 p1, .Name x2 p2] kk p3) X.env] := by rfl) : JS X W KE (.Assign [.Tuple [.Name x1 p1, .Name x2 p2] kk p3] e pos) n μ P :=
  js_of (ps_asg peC ht hs hw ha) fun σ H D ev rp t q => by
    refine h σ H _ ev rp t fun w d H1 μ1 h1 s1 r1 q1 => ?_
    obtain ⟨d1, d2, rfl, hk⟩ := h1
    obtain ⟨a, vs, rfl, e1, fr⟩ := tup_rep q1
    cases fr with
    | cons f1 fr =>
      cases fr with
      | cons f2 fr =>
        cases fr
        exact ⟨a, _, rfl, SqT.of e1, rfl, _, _, rfl, _, _, rfl, rfl, q.nx _ _ _ _ hk (((ev.step s1).set f1 i1).set f2 i2) s1 r1⟩

/-! ### what is walked -/
inductive Src where
  | seq (d : Dv) (xs : List Dv) | tup (xs : List Dv) | rng (lo : Int) (n : Nat) | str (z : Str) | rgc (lo c : Int) (n : Nat)
def Src.items : Src → List Dv
  | .seq _ xs => xs
  | .tup xs => xs
  | .rng lo n => (List.range n).map fun (i : Nat) => .int (lo + (i : Int))
  | .str z => z.cps.toList.map fun c => .str ⟨#[c]⟩
  | .rgc lo c n => (List.range n).map fun (i : Nat) => .int (lo + (i : Int) * c)
/-- the walked thing stands -/
def Src.Ok (μ : M) : Src → Prop
  | .seq d xs => SqD μ d xs
  | _ => True
def SrcRep (K : Kf) (μ : M) (H : Hp) : Src → It → Prop
  | .seq d xs, J => ∃ a, DRep K μ H (.ref a) d ∧ J = Itl K a
  | .tup xs, J => ∃ a, DRep K μ H (.ref a) (.tup xs) ∧ J = Itt K a
  | .rng lo n, J => J = Itr lo n
  | .str z, J => J = Its z
  | .rgc lo c n, J => J = Itc lo c n
theorem SrcRep.step {μ' : M} {H H' : Hp} {s : Src} {J : It} (st : Step μ H μ' H') (h : SrcRep K μ H s J) : SrcRep K μ' H' s J := by
  cases s with
  | seq d xs => obtain ⟨a, r, e⟩ := h; exact ⟨a, r.step st, e⟩
  | tup xs => obtain ⟨a, r, e⟩ := h; exact ⟨a, r.step st, e⟩
  | rng lo n => exact h
  | str z => exact h
  | rgc lo c n => exact h
theorem src_turn {H : Hp} {s : Src} {J : It} (h : SrcRep K μ H s J) (r : Rep K μ H) (ok : s.Ok μ) : (s.items.length ≤ i → J.stop i H) ∧ ∀ x, s.items[i]? = some x → J.go i H ∧ ∀ v H', J.yld i H v H' → H' = H ∧ DRep K μ H v x := by
  cases s with
  | seq d xs =>
    obtain ⟨a, rr, rfl⟩ := h
    obtain ⟨a', vs, ea, ha, ra⟩ := (show SqD μ d xs from ok).rep r rr
    cases ea
    refine ⟨fun hl => ⟨vs, ha, by rw [ra.length]; exact hl⟩, fun x hx => ?_⟩
    obtain ⟨v, h1, h2⟩ := ra.get hx
    exact ⟨⟨vs, v, ha, h1⟩, fun v' H' ⟨e, y⟩ => ⟨e, by have := y vs ha; rw [h1] at this; cases this; exact h2⟩⟩
  | tup xs =>
    obtain ⟨a, rr, rfl⟩ := h
    obtain ⟨a', vs, ea, ha, ra⟩ := tup_rep rr
    cases ea
    refine ⟨fun hl => ⟨vs, SqT.of ha, by rw [ra.length]; exact hl⟩, fun x hx => ?_⟩
    obtain ⟨v, h1, h2⟩ := ra.get hx
    exact ⟨⟨vs, v, SqT.of ha, h1⟩, fun v' H' ⟨e, y⟩ => ⟨e, by have := y vs (SqT.of ha); rw [h1] at this; cases this; exact h2⟩⟩
  | rng lo n =>
    cases h
    refine ⟨fun hl => by have z : n ≤ i := by simpa [Src.items] using hl
                         exact z, fun x hx => ?_⟩
    have hx' : ((List.range n).map fun (i : Nat) => Dv.int (lo + (i : Int)))[i]? = some x := hx
    rw [List.getElem?_map] at hx'
    have hi : i < n := by
      by_cases z : i < n
      · exact z
      · rw [List.getElem?_eq_none (by simpa using z)] at hx'; cases hx'
    rw [List.getElem?_range hi] at hx'
    cases hx'
    exact ⟨hi, fun v H' ⟨e, y⟩ => ⟨e, by rw [y]; exact .int _⟩⟩
  | rgc lo c n =>
    cases h
    refine ⟨fun hl => by have z : n ≤ i := by simpa [Src.items] using hl
                         exact z, fun x hx => ?_⟩
    have hx' : ((List.range n).map fun (i : Nat) => Dv.int (lo + (i : Int) * c))[i]? = some x := hx
    rw [List.getElem?_map] at hx'
    have hi : i < n := by
      by_cases z : i < n
      · exact z
      · rw [List.getElem?_eq_none (by simpa using z)] at hx'; cases hx'
    rw [List.getElem?_range hi] at hx'
    cases hx'
    exact ⟨hi, fun v H' ⟨e, y⟩ => ⟨e, by rw [y]; exact .int _⟩⟩
  | str z =>
    cases h
    refine ⟨fun hl => by have y : z.cps.size ≤ i := by simpa [Src.items] using hl
                         exact y, fun x hx => ?_⟩
    have hx' : (z.cps.toList.map fun c => Dv.str ⟨#[c]⟩)[i]? = some x := hx
    rw [List.getElem?_map] at hx'
    cases ec : z.cps.toList[i]? with
    | none => rw [ec] at hx'; cases hx'
    | some c =>
      rw [ec] at hx'
      cases hx'
      have ec' : z.cps[i]? = some c := by simpa using ec
      refine ⟨?_, fun v H' ⟨e, c', q1, q2⟩ => ⟨e, ?_⟩⟩
      · show i < z.cps.size
        exact (Array.getElem?_eq_some_iff.mp ec').1
      · rw [ec'] at q1; cases q1; rw [q2]; exact .str _
def cI (X : Cx) (tg iter : Expr) : TI := fun σ H R => ∀ (pins : List (Addr × Obj)) (s : Shared), Inv X pins σ H s → wpAny (model X.prog X.w) X.A (eval iter X.env) (fun v s1 => wpAny (model X.prog X.w) X.A (pyIter v) (PIE X pins σ tg R) X.xe s1) X.xe s
theorem piC {tg iter : Expr} : PI X tg iter (cI X tg iter) := ⟨fun pins s _ _ _ I h => h pins s I⟩
def JI (X : Cx) (W : WX) (KE : XD) (tg iter : Expr) (n : En) (μ : M) (ks : Src → M → Prop) : Prop := ∀ (σ : L2.St) (H : Hp) (R : It → Hp → Prop), Env X.K μ H σ n → Rep X.K μ H → Thr X.K W KE μ H →
  (∀ s J H' μ', ks s μ' → s.Ok μ' → SrcRep X.K μ' H' s J → Step μ H μ' H' → Rep X.K μ' H' → R J H') → cI X tg iter σ H R
theorem ji_of {tg iter : Expr} {ks : Src → M → Prop} {wi : TI} (h : PI X tg iter wi) (q : ∀ (σ : L2.St) (H : Hp) (R : It → Hp → Prop), Env X.K μ H σ n → Rep X.K μ H → Thr X.K W KE μ H →
  (∀ s J H' μ', ks s μ' → s.Ok μ' → SrcRep X.K μ' H' s J → Step μ H μ' H' → Rep X.K μ' H' → R J H') → wi σ H R) : JI X W KE tg iter n μ ks := fun σ H R a b c d pins s I => h.run pins s σ H R I (q σ H R a b c d)
theorem ji_seq {tg iter : Expr} {ks : Src → M → Prop} (h : JE X W KE iter n μ fun d μ1 => ∃ xs, SqD μ1 d xs ∧ ks (.seq d xs) μ1) : JI X W KE tg iter n μ ks :=
  ji_of (pi_list peC) fun σ H R ev rp t q => by
    refine h σ H _ ev rp t fun v d H1 μ1 h1 s1 r1 d1 => ?_
    obtain ⟨xs, l, hk⟩ := h1
    obtain ⟨a, vs, rfl, ha, ra⟩ := l.rep r1 d1
    exact ⟨a, rfl, ⟨vs, ha⟩, q (.seq d xs) _ _ _ hk l ⟨a, d1, rfl⟩ s1 r1⟩
theorem ji_tup {tg iter : Expr} {ks : Src → M → Prop} (h : JE X W KE iter n μ fun d μ1 => ∃ xs, d = .tup xs ∧ ks (.tup xs) μ1) : JI X W KE tg iter n μ ks :=
  ji_of (pi_tup peC) fun σ H R ev rp t q => by
    refine h σ H _ ev rp t fun v d H1 μ1 h1 s1 r1 d1 => ?_
    obtain ⟨xs, rfl, hk⟩ := h1
    obtain ⟨a, vs, rfl, ha, ra⟩ := tup_rep d1
    exact ⟨a, rfl, ⟨vs, SqT.of ha⟩, q (.tup xs) _ _ _ hk trivial ⟨a, d1, rfl⟩ s1 r1⟩
theorem ji_str {tg iter : Expr} {ks : Src → M → Prop} (h : JE X W KE iter n μ fun d μ1 => ∃ z, d = .str z ∧ ks (.str z) μ1) : JI X W KE tg iter n μ ks :=
  ji_of (pi_str peC) fun σ H R ev rp t q => by
    refine h σ H _ ev rp t fun v d H1 μ1 h1 s1 r1 d1 => ?_
    obtain ⟨z, rfl, hk⟩ := h1
    cases d1
    exact ⟨z, rfl, q (.str z) _ _ _ hk trivial rfl s1 r1⟩
theorem ji_range1 {tg : Expr} {ks : Src → M → Prop} (hm : X.mg "range" = none) (h : JA X W KE [a] n μ fun ds μ1 => ∃ j : Int, ds = [.int j] ∧ -(2 ^ 62) ≤ j ∧ j < 2 ^ 62 ∧ ks (.rng 0 j.toNat) μ1) (hg : Gl X "range" := by rfl)
    (hs : starEach [a] X.env = [(false, eval a X.env)] := by rfl) : JI X W KE tg (.Call (.Name "range" p) [a] [] pos) n μ ks :=
  ji_of (pi_range1 hg hm paC hs) fun σ H R ev rp t q => by
    refine h σ H _ ev rp t fun vs ds H1 μ1 h1 s1 r1 d1 => ?_
    obtain ⟨j, rfl, l1, l2, hk⟩ := h1
    cases d1 with
    | cons d0 dn =>
      cases dn; cases d0
      exact ⟨j, rfl, l1, l2, q (.rng 0 j.toNat) _ _ _ hk trivial rfl s1 r1⟩
theorem ji_range2 {tg : Expr} {ks : Src → M → Prop} (hm : X.mg "range" = none) (h : JA X W KE [a, b] n μ fun ds μ1 => ∃ i j : Int, ds = [.int i, .int j] ∧ (-(2 ^ 62) ≤ i ∧ i < 2 ^ 62 ∧ -(2 ^ 62) ≤ j ∧ j < 2 ^ 62) ∧ ks (.rng i (j - i).toNat) μ1) (hg : Gl X "range" := by rfl)
    (hs : starEach [a, b] X.env = [(false, eval a X.env), (false, eval b X.env)] := by rfl) (hs2 : starEach [b] X.env = [(false, eval b X.env)] := by rfl) : JI X W KE tg (.Call (.Name "range" p) [a, b] [] pos) n μ ks :=
  ji_of (pi_range2 hg hm paC hs hs2) fun σ H R ev rp t q => by
    refine h σ H _ ev rp t fun vs ds H1 μ1 h1 s1 r1 d1 => ?_
    obtain ⟨i, j, rfl, l1, hk⟩ := h1
    cases d1 with
    | cons d0 dn =>
      cases dn with
      | cons d1 dn =>
        cases dn; cases d0; cases d1
        exact ⟨i, j, rfl, l1, q (.rng i (j - i).toNat) _ _ _ hk trivial rfl s1 r1⟩
theorem ji_range3 {c : Expr} {tg : Expr} {ks : Src → M → Prop} (hm : X.mg "range" = none) (h : JA X W KE [a, b, c] n μ fun ds μ1 => ∃ (i j s : Int) (m : Nat), ds = [.int i, .int j, .int s] ∧ RgC i j s m ∧ ks (.rgc i s m) μ1) (hg : Gl X "range" := by rfl)
    (hs : starEach [a, b, c] X.env = (false, eval a X.env) :: starEach [b, c] X.env := by rfl) (hpl : (backTo pos (starEach [b, c] X.env)).any (·.1) = false := by rfl) : JI X W KE tg (.Call (.Name "range" p) [a, b, c] [] pos) n μ ks :=
  ji_of (pi_range3 hg hm paC hs hpl) fun σ H R ev rp t q => by
    refine h σ H _ ev rp t fun vs ds H1 μ1 h1 s1 r1 d1 => ?_
    obtain ⟨i, j, s, m, rfl, l1, hk⟩ := h1
    cases d1 with
    | cons d0 dn =>
      cases dn with
      | cons d1 dn =>
        cases dn with
        | cons d2 dn =>
          cases dn; cases d0; cases d1; cases d2
          exact ⟨i, j, s, m, rfl, l1, q (.rgc i s m) _ _ _ hk trivial rfl s1 r1⟩

/-- a for, by a word over the turn, the names, the store -/
theorem js_for (i : Nat) {tg iter : Expr} (cn : X.calm = true) (ow : PassesOwn (model X.prog X.w) X.A X.env X.xe) (hg : PG X tg (gName i))
    (h : JI X W KE tg iter n μ fun s μ1 => ∃ Iv : Nat → En → M → Prop, Iv 0 n μ1 ∧ (∀ j n' μ', Iv j n' μ' → s.Ok μ') ∧
      (∀ j x n' μ', s.items[j]? = some x → Iv j n' μ' → JB X W KE A (n'.set i (some x)) μ' { nx := Iv (j + 1), ct := Iv (j + 1), bk := P.nx, rt := P.rt }) ∧ ∀ n' μ', Iv s.items.length n' μ' → P.nx n' μ') (hs : ∀ x, foldedSetIterable iter X.env x = pure x := by intro _; rfl) : JS X W KE (.For tg iter A [] pos) n μ P :=
  js_of (ps_for ow cn piC hg pbC hs) fun σ H D ev rp t q => by
    refine h σ H _ ev rp t fun s J H1 μ1 h1 ok1 sr1 s1 r1 => ?_
    obtain ⟨Iv, h0, hok, hturn, hend⟩ := h1
    refine ⟨fun j m σ' H' => m = s.items.length - j ∧ j ≤ s.items.length ∧ ∃ n' μ', Iv j n' μ' ∧ Env X.K μ' H' σ' n' ∧ Step μ H μ' H' ∧ Rep X.K μ' H' ∧ SrcRep X.K μ' H' s J, ⟨s.items.length, by simp, Nat.zero_le _, n, μ1, h0, ev.step s1, s1, r1, sr1⟩, ?_⟩
    rintro j m σ' H' ⟨rfl, hj, n', μ', iv, ev', st', rp', sr'⟩
    have T := src_turn (i := j) sr' rp' (hok j n' μ' iv)
    by_cases hlt : j < s.items.length
    · obtain ⟨hgo, hy⟩ := T.2 _ (List.getElem?_eq_getElem hlt)
      refine .inr ⟨hgo, fun σ2 H2 => ∃ n2 μ2, Iv (j + 1) n2 μ2 ∧ Env X.K μ2 H2 σ2 n2 ∧ Step μ H μ2 H2 ∧ Rep X.K μ2 H2 ∧ SrcRep X.K μ2 H2 s J, fun σ2 H2 z => ⟨s.items.length - (j + 1), by omega, rfl, hlt, z⟩, fun v H2 yv => ?_⟩
      obtain ⟨rfl, dv⟩ := hy v H2 yv
      refine hturn j _ n' μ' (List.getElem?_eq_getElem hlt) iv (σ'.set i (some v)) _ _ (ev'.set dv i) rp' (t.step st') ⟨fun σ2 e2 H2 μ2 a b c d => ?_, q.rt.step st', fun σ2 e2 H2 μ2 a b c d => ?_, fun σ2 e2 H2 μ2 a b c d => ?_⟩
      · exact ⟨e2, μ2, a, b, st'.trans c, d, sr'.step c⟩
      · exact q.nx _ _ _ _ a b (st'.trans c) d
      · exact ⟨e2, μ2, a, b, st'.trans c, d, sr'.step c⟩
    · have e : j = s.items.length := by omega
      subst e
      exact .inl ⟨T.1 (Nat.le_refl _), q.nx _ _ _ _ (hend n' μ' iv) ev' st' rp'⟩
/-- while, by a word and a measure -/
theorem js_while (ow : PassesOwn (model X.prog X.w) X.A X.env X.xe) (Iv : Nat → En → M → Prop) (m0 : Nat) (h0 : Iv m0 n μ)
    (hs : ∀ m n' μ', Iv m n' μ' → JT X W KE c n' μ' fun b μ2 => (b = true → JB X W KE A n' μ2 { nx := fun n3 μ3 => ∃ m', m' < m ∧ Iv m' n3 μ3, ct := fun n3 μ3 => ∃ m', m' < m ∧ Iv m' n3 μ3, bk := P.nx, rt := P.rt }) ∧ (b = false → P.nx n' μ2)) : JS X W KE (.While c A [] pos) n μ P :=
  js_of (ps_while ow ptC pbC) fun σ H D ev rp t q => by
    refine ⟨fun m σ' H' => ∃ n' μ', Iv m n' μ' ∧ Env X.K μ' H' σ' n' ∧ Step μ H μ' H' ∧ Rep X.K μ' H', ⟨m0, n, μ, h0, ev, Step.refl _ _, rp⟩, ?_⟩
    rintro m σ' H' ⟨n', μ', iv, ev', st', rp'⟩
    refine hs m n' μ' iv σ' H' _ ev' rp' (t.step st') fun b H2 μ2 h2 s2 r2 => ?_
    have st2 := st'.trans s2
    cases b with
    | true =>
      rw [if_pos rfl]
      refine ⟨fun σ3 H3 => ∃ m', m' < m ∧ ∃ n3 μ3, Iv m' n3 μ3 ∧ Env X.K μ3 H3 σ3 n3 ∧ Step μ H μ3 H3 ∧ Rep X.K μ3 H3, fun σ3 H3 z => z, ?_⟩
      refine h2.1 rfl σ' H2 _ (ev'.step s2) r2 (t.step st2) ⟨fun σ3 e3 H3 μ3 a b c d => ?_, q.rt.step st2, fun σ3 e3 H3 μ3 a b c d => ?_, fun σ3 e3 H3 μ3 a b c d => ?_⟩
      · obtain ⟨m', l, z⟩ := a
        exact ⟨m', l, e3, μ3, z, b, st2.trans c, d⟩
      · exact q.nx _ _ _ _ a b (st2.trans c) d
      · obtain ⟨m', l, z⟩ := a
        exact ⟨m', l, e3, μ3, z, b, st2.trans c, d⟩
    | false =>
      rw [if_neg Bool.false_ne_true]
      exact q.nx _ _ _ _ (h2.2 rfl) (ev'.step s2) st2 r2
end
end DL

/-! ## Comprehensions, defs, the law's end -/
namespace DL
open PySem PySem.Spec L2
abbrev W0 : WX := fun _ _ _ _ => False
abbrev KE0 : XD := fun _ _ _ _ => False
theorem Thr.no {K : Kf} {μ : M} {H : Hp} : Thr K W0 KE0 μ H := fun _ _ _ _ _ _ _ h => False.elim h
theorem Cok.blk {kl : Nat} {X : Cx} {W : WX} (c : Cok kl X W) {s : Shared} {H : Hp} {scope : Scope} {env : PySem.Env} {fp : List Addr} : Cok kl (X.blk s H scope env fp) W0 := ⟨c.room, c.calm, takes0, c.nd⟩
section
variable {X : Cx} {W : WX} {KE : XD} {tg iter elt e a b c o : Expr} {ifs es rest : List Expr} {st : Stmt} {sts A B : List Stmt} {n : En} {μ : M} {k : DK} {P : Ed} {pos pos' p apos : Pos} {x m f y : Str} {K : Kf} {kl j i : Nat} {scope : Scope}
def tIfs (X : Cx) : List Expr → TT
  | [] => tYes
  | [c] => cT X c
  | _ => fun _ _ _ => False
theorem ptsC {ifs : List Expr} : PTs X ifs (tIfs X ifs) := by
  match ifs with
  | [] => exact pts_nil
  | [c] => exact pts_one ptC
  | _ :: _ :: _ => exact ⟨fun _ _ _ _ _ _ h => h.elim⟩
def JIf (X : Cx) (W : WX) (KE : XD) : List Expr → En → M → (Bool → M → Prop) → Prop
  | [], _, μ, kb => kb true μ
  | [c], n, μ, kb => JT X W KE c n μ kb
  | _, _, _, _ => False
theorem JIf.run {ifs : List Expr} {kb : Bool → M → Prop} (h : JIf X W KE ifs n μ kb) {σ : L2.St} {H : Hp} {Q : Bool → Hp → Prop} (ev : Env X.K μ H σ n) (rp : Rep X.K μ H) (t : Thr X.K W KE μ H) (q : TlB X.K μ H kb Q) : tIfs X ifs σ H Q := by
  match ifs, h with
  | [], h => exact q _ _ μ h (Step.refl _ _) rp
  | [c], h => exact h σ H Q ev rp t q
/-- one turn of a comprehension: the test, then the element -/
def LcTurn (X : Cx) (scope : Scope) (ifs : List Expr) (elt : Expr) (n : En) (μ : M) (ko : Option Dv → M → Prop) : Prop :=
  ∀ (s : Shared) (H : Hp) (C : Addr) (cl : List (Str × Addr)) (fp : List Addr), JIf (X.blk s H scope (compEnvC scope cl C X.env) fp) W0 KE0 ifs n μ fun b μ2 =>
    (b = true → ∀ (s : Shared) (H : Hp) (C : Addr) (cl : List (Str × Addr)) (fp : List Addr), JE (X.blk s H scope (compEnvC scope cl C X.env) fp) W0 KE0 elt n μ2 fun y μ3 => ko (some y) μ3) ∧ (b = false → ko none μ2)
/-- the comprehension's list, as it is from now on -/
def LcEnd (μ : M) (a : Addr) (acc : List Dv) (k : DK) : Prop := k (.lst acc) (delM μ a) ∨ (μ a = some (.lst acc) ∧ k (.obj a) μ)
def LcAll (X : Cx) (scope : Scope) (ifs : List Expr) (elt : Expr) (i : Nat) (n : En) (k : DK) (s : Src) (μ1 : M) : Prop := ∀ a, μ1 a = none → ∃ Iv : Nat → List Dv → M → Prop, Iv 0 [] (updM μ1 a (.lst [])) ∧
  (∀ j acc μ', Iv j acc μ' → s.Ok μ' ∧ μ' a = some (.lst acc) ∧ acc.length < sizeLine) ∧
  (∀ j x acc μ', s.items[j]? = some x → Iv j acc μ' → LcTurn X scope ifs elt ((n.set i none).set i (some x)) μ' fun o μ3 => match o with
    | some y => μ3 a = some (.lst acc) ∧ Iv (j + 1) (acc ++ [y]) (updM μ3 a (.lst (acc ++ [y])))
    | none => Iv (j + 1) acc μ3) ∧
  ∀ acc μ', Iv s.items.length acc μ' → LcEnd μ' a acc k
abbrev tIfF (X : Cx) (scope : Scope) (ifs : List Expr) : TT := fun σ H Q => ∀ (s : Shared) (H0 : Hp) (C : Addr) (cl : List (Str × Addr)) (fp : List Addr), tIfs (X.blk s H0 scope (compEnvC scope cl C X.env) fp) ifs σ H Q
abbrev tElF (X : Cx) (scope : Scope) (elt : Expr) : TE := fun σ H Q => ∀ (s : Shared) (H0 : Hp) (C : Addr) (cl : List (Str × Addr)) (fp : List Addr), cE (X.blk s H0 scope (compEnvC scope cl C X.env) fp) elt σ H Q
theorem tIfF_ok (s : Shared) (H : Hp) (C : Addr) (cl : List (Str × Addr)) (fp : List Addr) : PTs (X.blk s H scope (compEnvC scope cl C X.env) fp) ifs (tIfF X scope ifs) := ⟨fun pins s' σ H' Q I h => ptsC.run pins s' σ H' Q I (h s H C cl fp)⟩
theorem tElF_ok (s : Shared) (H : Hp) (C : Addr) (cl : List (Str × Addr)) (fp : List Addr) : PE (X.blk s H scope (compEnvC scope cl C X.env) fp) elt (tElF X scope elt) := ⟨fun pins s' σ H' Q I h => h s H C cl fp pins s' I⟩
theorem lc_run (h : JI X W KE tg iter n μ fun s μ1 => LcAll X scope ifs elt i n k s μ1) {σ : L2.St} {H : Hp} {Q : VK} (ev : Env X.K μ H σ n) (rp : Rep X.K μ H) (t : Thr X.K W KE μ H) (q : Tl X.K μ H k Q) :
    tLc (cI X tg iter) (gName i) (tIfF X scope ifs) (tElF X scope elt) [i] σ H Q := by
  refine h σ H _ ev rp t fun s J H1 μ1 h1 ok1 sr1 s1 r1 => fun D hD => ?_
  obtain ⟨Iv, h0, hok, hturn, hend⟩ := h1 D (r1.free hD)
  have sN : Step μ1 H1 (updM μ1 D (.lst [])) (upd H1 D (.lst [])) := Step.newM hD
  have evW : ∀ {μ' : M} {H' : Hp}, Step μ H μ' H' → Env X.K μ' H' (wipe σ [i]) (n.set i none) := fun st => (ev.step st).wipe [i]
  refine ⟨fun j m H' => m = s.items.length - j ∧ j ≤ s.items.length ∧ ∃ acc μ', Iv j acc μ' ∧ Step μ H μ' H' ∧ Rep X.K μ' H' ∧ SrcRep X.K μ' H' s J, ⟨s.items.length, by simp, Nat.zero_le _, [], _, h0, s1.trans sN, r1.put sN ⟨[], upd_same, .nil⟩, sr1.step sN⟩, ?_⟩
  rintro j m H' ⟨rfl, hj, acc, μ', iv, st', rp', sr'⟩
  obtain ⟨ok', ha', hl'⟩ := hok j acc μ' iv
  have T := src_turn (i := j) sr' rp' ok'
  by_cases hlt : j < s.items.length
  · obtain ⟨hgo, hy⟩ := T.2 _ (List.getElem?_eq_getElem hlt)
    refine .inr ⟨hgo, fun H2 => ∃ acc2 μ2, Iv (j + 1) acc2 μ2 ∧ Step μ H μ2 H2 ∧ Rep X.K μ2 H2 ∧ SrcRep X.K μ2 H2 s J, fun H2 z => ⟨s.items.length - (j + 1), by omega, rfl, hlt, z⟩, fun v H2 yv => ?_⟩
    obtain ⟨rfl, dv⟩ := hy v H2 yv
    have hT := hturn j _ acc μ' (List.getElem?_eq_getElem hlt) iv
    have ev2 : Env X.K μ' H2 ((wipe σ [i]).set i (some v)) ((n.set i none).set i (some s.items[j])) := (evW st').set dv i
    refine ⟨?_, fun sA HA CA clA fpA => ?_⟩
    · show ((σ.set i none).set i (some v)).set i none = σ.set i none
      rw [List.set_set, List.set_set]
    · refine (hT sA HA CA clA fpA).run ev2 rp' Thr.no fun b H3 μ3 h3 s3 r3 => ?_
      cases b with
      | true =>
        rw [if_pos rfl]
        intro sB HB CB clB fpB
        refine h3.1 rfl sB HB CB clB fpB _ H3 _ (ev2.step s3) r3 Thr.no fun y d H4 μ4 h4 s4 r4 d4 => ?_
        obtain ⟨ha4, iv4⟩ := h4
        obtain ⟨vs, e4, rr⟩ := r4 _ _ ha4
        have s5 := Step.mut (H := H4) (o := .lst (vs ++ [y])) (u := .lst (acc ++ [d])) ha4
        exact ⟨vs, e4, by rw [rr.length]; exact hl', acc ++ [d], _, iv4, ((st'.trans s3).trans s4).trans s5, r4.put s5 ⟨_, upd_same, (rr.step s5).append (.one (d4.step s5))⟩, (((sr'.step s3).step s4).step s5)⟩
      | false =>
        rw [if_neg Bool.false_ne_true]
        exact ⟨acc, μ3, h3.2 rfl, st'.trans s3, r3, sr'.step s3⟩
  · have e : j = s.items.length := by omega
    subst e
    refine .inl ⟨T.1 (Nat.le_refl _), ?_⟩
    rcases hend acc μ' iv with hk | ⟨hm, hk⟩
    · obtain ⟨vs, e4, rr⟩ := rp' _ _ ha'
      exact q _ _ _ _ hk (st'.trans Step.freeze) rp'.freeze (.lst e4 delM_same (rr.step Step.freeze))
    · exact q _ _ _ _ hk st' rp' (.obj D)
theorem je_lcG (i : Nat) (cn : X.calm = true) (nd : X.N.Nodup) (ok : BlkOk X.N X.env.scope scope [(x, i)]) (hg : ∀ (s : Shared) (H : Hp) (C : Addr) (cl : List (Str × Addr)) (fp : List Addr), PG (X.blk s H scope (compEnvC scope cl C X.env) fp) tg (gName i))
    (h : JI X W KE tg iter n μ fun s μ1 => LcAll X scope ifs elt i n k s μ1) (hs : ∀ x, foldedSetIterable iter X.env x = pure x := by intro _; rfl) : JE X W KE (.ListComp elt [⟨tg, iter, ifs, 0⟩] scope pos) n μ k :=
  je_of (pe_lc cn nd piC ok hg (fun s H C cl fp => tIfF_ok s H C cl fp) (fun s H C cl fp => tElF_ok s H C cl fp) hs) fun σ H Q ev rp t q => lc_run h ev rp t q
theorem js_setLcG (i ii : Nat) {py spos : Pos} (cn : X.calm = true) (nd : X.N.Nodup) (hy : X.N[ii]? = some y) (hyl : X.env.scope.names.lookup y = some .local) (hsw : swapsWith (.ListComp elt [⟨tg, iter, ifs, 0⟩] scope pos) (some (.Name y py)) spos.line X.env = pure true)
    (ok : BlkOk X.N X.env.scope scope [(x, i)]) (hg : ∀ (s : Shared) (H : Hp) (C : Addr) (cl : List (Str × Addr)) (fp : List Addr), PG (X.blk s H scope (compEnvC scope cl C X.env) fp) tg (gName i))
    (h : JI X W KE tg iter n μ fun s μ1 => LcAll X scope ifs elt i n (fun d μ' => P.nx (n.set ii (some d)) μ') s μ1) (hs : ∀ x, foldedSetIterable iter X.env x = pure x := by intro _; rfl) : JS X W KE (.Assign [.Name y py] (.ListComp elt [⟨tg, iter, ifs, 0⟩] scope pos) spos) n μ P :=
  js_of (ps_setLc cn nd hy hyl hsw piC ok hg (fun s H C cl fp => tIfF_ok s H C cl fp) (fun s H C cl fp => tElF_ok s H C cl fp) hs) fun σ H D ev rp t q => lc_run (Q := fun x H1 => gName ii x σ H1 D.nx) h ev rp t fun v d H' μ' hk st r dd => q.nx _ _ _ _ hk ((ev.step st).set dd ii) st r
/-- more stands -/
def ExtM (μ μ' : M) : Prop := ∀ a o, μ a = some o → μ' a = some o
theorem ExtM.refl (μ : M) : ExtM μ μ := fun _ _ h => h
theorem Src.Ok.ext {s : Src} {μ μ' : M} (h : s.Ok μ) (e : ExtM μ μ') : s.Ok μ' := by
  cases s with
  | seq d xs =>
    cases (show SqD μ d xs from h) with
    | lst xs => exact .lst _
    | fro xs => exact .fro _
    | obj z => exact .obj (e _ _ z)
  | tup xs => trivial
  | rng lo n => trivial
  | rgc lo c n => trivial
  | str z => trivial
/-- a comprehension that changes nothing -/
theorem lc_pure (f : Dv → Option Dv) {s : Src} {μ1 : M} (hok : s.Ok μ1) (hl : s.items.length < sizeLine)
    (h : ∀ (j : Nat) (x : Dv) (μ' : M), s.items[j]? = some x → ExtM μ1 μ' → LcTurn X scope ifs elt ((n.set i none).set i (some x)) μ' fun o μ3 => o = f x ∧ μ3 = μ') (hk : k (.lst (s.items.filterMap f)) μ1) : LcAll X scope ifs elt i n k s μ1 := fun a ha => by
  have ex : ∀ acc, ExtM μ1 (updM μ1 a (.lst acc)) := fun acc b u e => by rw [updM_ne (ne_ofM e ha)]; exact e
  refine ⟨fun j acc μ' => acc = (s.items.take j).filterMap f ∧ μ' = updM μ1 a (.lst acc), ⟨rfl, rfl⟩, ?_, ?_, ?_⟩
  · rintro j acc μ' ⟨rfl, rfl⟩
    refine ⟨hok.ext (ex _), updM_same, Nat.lt_of_le_of_lt (List.length_filterMap_le _ _) ?_⟩
    rw [List.length_take]; omega
  · rintro j x acc μ' hx ⟨rfl, rfl⟩
    have ht : (s.items.take (j + 1)).filterMap f = (s.items.take j).filterMap f ++ (match f x with | some y => [y] | none => []) := by
      rw [List.take_add_one, List.filterMap_append, hx]
      cases e : f x with
      | none => simp [e]
      | some y => simp [e]
    intro s1 H1 C1 cl1 fp1
    have hT := h j x _ hx (ex ((s.items.take j).filterMap f)) s1 H1 C1 cl1 fp1
    have go : ∀ (b : Bool) (μ2 : M), ((b = true → ∀ (sS : Shared) (H : Hp) (C : Addr) (cl : List (Str × Addr)) (fp : List Addr), JE (X.blk sS H scope (compEnvC scope cl C X.env) fp) W0 KE0 elt ((n.set i none).set i (some x)) μ2 fun y μ3 => some y = f x ∧ μ3 = updM μ1 a (.lst ((s.items.take j).filterMap f))) ∧ (b = false → none = f x ∧ μ2 = updM μ1 a (.lst ((s.items.take j).filterMap f)))) →
        ((b = true → ∀ (sS : Shared) (H : Hp) (C : Addr) (cl : List (Str × Addr)) (fp : List Addr), JE (X.blk sS H scope (compEnvC scope cl C X.env) fp) W0 KE0 elt ((n.set i none).set i (some x)) μ2 fun y μ3 => μ3 a = some (.lst ((s.items.take j).filterMap f)) ∧ ((s.items.take j).filterMap f ++ [y] = (s.items.take (j + 1)).filterMap f ∧ updM μ3 a (.lst ((s.items.take j).filterMap f ++ [y])) = updM μ1 a (.lst ((s.items.take j).filterMap f ++ [y])))) ∧ (b = false → (s.items.take j).filterMap f = (s.items.take (j + 1)).filterMap f ∧ μ2 = updM μ1 a (.lst ((s.items.take j).filterMap f)))) := fun b μ2 z => ⟨fun hb sS H C cl fp => (z.1 hb sS H C cl fp).mono fun y μ3 ⟨z1, z2⟩ => by
          subst z2
          exact ⟨updM_same, by rw [ht, ← z1], updM_updM⟩, fun hb => by
          obtain ⟨z1, z2⟩ := z.2 hb
          exact ⟨by rw [ht, ← z1, List.append_nil], z2⟩⟩
    match ifs, hT with
    | [], hT => exact go _ _ hT
    | [c], hT => exact JT.mono hT fun b μ2 z => go _ _ z
  · rintro acc μ' ⟨rfl, rfl⟩
    rw [List.take_length]
    exact .inl (by rw [delM_updM ha]; exact hk)

/-! ### defs -/
theorem fn_data {Pg : Program} {w : World} {K : Kf} {mg : Str → Option Value} {base : Heap} {x qual : Str} {st : Stmt} {f : Addr} {fd : FuncData} {N ps : List Str} {k : Nat} {S : DSp} (F : Fun K x qual st f fd) (Sc : FnScope N ps (defScope st)) (len : ∀ ds μ kd ke, S ds μ kd ke → ds.length = ps.length)
    (hbody : ∀ (cdv : Value) (A : Around) (outer : List PySem.Env) (s : Shared) (H : Hp) (E : XK),
      let X := cxOf (L2.CX Pg w) Pg w K mg base N qual (defScope st) f cdv A outer s H E
      Cok k X (fun cls d _ H => E cls d H) → PassesOwn (model X.prog X.w) X.A X.env X.xe → ∀ (ds : List Dv) (μ : M) (kd : DK) (ke : XF), S ds μ kd ke →
        JB X (fun cls d _ H => E cls d H) (fun cls fs _ μ' => ke cls fs μ') (defBody st) (ds.map some ++ List.replicate (N.length - ds.length) none) μ { nx := fun _ μ' => kd .non μ', rt := kd }) : FnOk Pg w K mg base (L2.CX Pg w) (k + 1) f fd ps (toSp K S) := by
  refine F.okX Sc (fun vs H Q E h => ?_) (fun cdv A outer s H vs Q E hr h => ?_)
  · obtain ⟨ds, μ, kd, ke, dr, rp, sp, _⟩ := h
    rw [dr.length]
    exact len _ _ _ _ sp
  · obtain ⟨ds, μ, kd, ke, dr, rp, sp, tl, tx⟩ := h
    refine ⟨_, pbC, hbody cdv A outer s H E ⟨hr, rfl, takes_of rfl rfl rfl rfl, Sc.nd⟩ (passes_of rfl) ds μ kd ke sp _ H _ ?_ rp (fun cls fs d σ' e' H' μ' h1 _ s1 r1 x1 => tx cls fs d H' μ' h1 s1 r1 x1) ⟨fun σ' e' H' μ' h1 _ s1 r1 => tl .non .non H' μ' h1 s1 r1 .non, tl, fun _ _ _ _ h => False.elim h, fun _ _ _ _ h => False.elim h⟩⟩
    unfold L2.start
    rw [dr.length]
    exact Env.start _ dr
theorem dfn_of {Pg : Program} {w : World} {K : Kf} {mg : Str → Option Value} {base : Heap} {f : Addr} {fd : FuncData} {ps : List Str} {k : Nat} {S : DSp} (F : FnOk Pg w K mg base (L2.CX Pg w) k f fd ps (toSp K S)) (hb : Binds K fd ps []) : DFn Pg w K mg base k f S [] := ⟨fd, ps, [], [], F, hb, .nil, .nil⟩
/-- the law's own promise -/
def spLaw : DSp := fun ds μ kd _ => ∃ ns : List Int, ds = [.fro (ns.map Dv.int)] ∧ ns.length ≤ 63 ∧ μ = (fun _ => none) ∧ ∀ μ', kd (.bl true) μ'
theorem law_sp {K : Kf} {H : Hp} {a : Addr} {ns : List Int} (hl : ns.length ≤ 63) (hS : SqL K H a (ns.map V.int)) : toSp K spLaw [.ref a] H (fun v _ => v = .bl true) fun _ _ _ => False := by
  refine ⟨[.fro (ns.map Dv.int)], fun _ => none, fun d _ => d = .bl true, fun _ _ _ => False, .one ?_, (fun _ _ h => by cases h), ⟨ns, rfl, hl, rfl, fun _ => rfl⟩, fun v d H' μ' hk _ _ r => ?_, fun _ _ _ _ _ h => False.elim h⟩
  · rcases hS with h | h
    · exact .fro h rfl (.ofInts ns)
    · exact .frk h (.ofInts ns)
  · subst hk
    cases r
    rfl
theorem law_CX {Pg : Program} {w : World} (H : Hp) (s : Shared) (e : Value) (s' : Shared) (h : L2.CX Pg w [] H s (fun _ _ _ => False) e s') : False := by
  obtain ⟨_, _, _, _, _, _, _, _, _, _, _, _, z⟩ := h
  exact z.elim
end
end DL

/-! ## Templates of names; handy forms -/
namespace DL
open PySem PySem.Spec L2
theorem LeE.refl (e : En) : LeE e e := ⟨rfl, fun _ _ h => h⟩
theorem LeE.nil : LeE [] [] := ⟨rfl, fun _ _ h => h⟩
theorem LeE.same {x : Option Dv} {t t' : En} (h : LeE t t') : LeE (x :: t) (x :: t') := ⟨congrArg (· + 1) h.1, fun i d q => by
  cases i with
  | zero => exact q
  | succ i => exact h.2 i d q⟩
theorem LeE.drop {x : Option Dv} {t t' : En} (h : LeE t t') : LeE (x :: t) (none :: t') := ⟨congrArg (· + 1) h.1, fun i d q => by
  cases i with
  | zero => cases q
  | succ i => exact h.2 i d q⟩
theorem LeE.trans {a b c : En} (h : LeE a b) (g : LeE b c) : LeE a c := ⟨h.1.trans g.1, fun i d q => h.2 i d (g.2 i d q)⟩
theorem LeE.set {a b : En} (h : LeE a b) (i : Nat) (x : Option Dv) : LeE (a.set i x) (b.set i x) := ⟨by rw [List.length_set, List.length_set]; exact h.1, fun j d q => by
  by_cases z : i = j
  · subst z
    by_cases hl : i < b.length
    · rw [List.getElem?_set_self hl] at q
      rw [List.getElem?_set_self (by rw [h.1]; exact hl)]
      exact q
    · rw [List.getElem?_eq_none (by rw [List.length_set]; omega)] at q
      cases q
  · rw [List.getElem?_set_ne z] at q ⊢
    exact h.2 j d q⟩
section
variable {X : Cx} {W : WX} {KE : XD} {tg iter elt e a b c o : Expr} {ifs es rest : List Expr} {st : Stmt} {sts A B : List Stmt} {n : En} {μ : M} {k : DK} {P : Ed} {pos pos' p apos : Pos} {x m f y : Str} {K : Kf} {kl j : Nat} {scope : Scope}
/-- what is known behind: at least these names -/
def Mid (Q : En → M → Prop) : En → M → Prop := fun e' μ' => ∃ e2, LeE e' e2 ∧ Q e2 μ'
theorem jb_cut (Q : En → M → Prop) (h : JS X W KE st n μ { P with nx := Mid Q }) (h2 : ∀ e μ', Q e μ' → JB X W KE sts e μ' P) : JB X W KE (st :: sts) n μ P :=
  jb_cons (h.mono (fun _ _ ⟨e2, l, q⟩ => (h2 e2 _ q).le l) (fun _ _ z => z) (fun _ _ z => z) (fun _ _ z => z))
theorem js_forT (i : Nat) (cn : X.calm = true) (ow : PassesOwn (model X.prog X.w) X.A X.env X.xe) (hg : PG X tg (gName i))
    (h : JI X W KE tg iter n μ fun s μ1 => ∃ Iv : Nat → En → M → Prop, Mid (Iv 0) n μ1 ∧ (∀ j n' μ', Iv j n' μ' → s.Ok μ') ∧
      (∀ j x e μ', s.items[j]? = some x → Iv j e μ' → JB X W KE A (e.set i (some x)) μ' { nx := Mid (Iv (j + 1)), ct := Mid (Iv (j + 1)), bk := P.nx, rt := P.rt }) ∧ ∀ e μ', Iv s.items.length e μ' → ∀ n', LeE n' e → P.nx n' μ') (hs : ∀ x, foldedSetIterable iter X.env x = pure x := by intro _; rfl) : JS X W KE (.For tg iter A [] pos) n μ P := by
  refine js_for i cn ow hg (fun σ H R ev rp t q => h σ H R ev rp t fun s J H' μ' hh => q s J H' μ' ?_) hs
  obtain ⟨Iv, h0, hok, ht, hd⟩ := hh
  exact ⟨fun j => Mid (Iv j), h0, fun j n' μ' ⟨e2, l, z⟩ => hok j e2 μ' z, fun j x n' μ' hx ⟨e2, l, z⟩ => (ht j x e2 μ' hx z).le (l.set i _), fun n' μ' ⟨e2, l, z⟩ => hd e2 μ' z n' l⟩
/-- a test whose value is told ahead, nothing changed -/
theorem jt_to (v : Bool) {kb : Bool → M → Prop} (h : JT X W KE e n μ fun b μ' => b = v ∧ μ' = μ) (hk : kb v μ) : JT X W KE e n μ kb := h.mono fun b μ' ⟨h1, h2⟩ => by subst h1; subst h2; exact hk
theorem je_to (v : Dv) (h : JE X W KE e n μ fun d μ' => d = v ∧ μ' = μ) (hk : k v μ) : JE X W KE e n μ k := h.mono fun b μ' ⟨h1, h2⟩ => by subst h1; subst h2; exact hk
theorem getD_mapF {α β : Type} (f : α → β) (xs : List α) (i : Nat) (z : α) : (xs.map f).getD i (f z) = f (xs.getD i z) := by
  rw [List.getD_eq_getElem?_getD, List.getD_eq_getElem?_getD, List.getElem?_map]
  cases xs[i]? <;> rfl
theorem at_getD {α : Type} {xs : List α} {i : Int} (d : α) (h0 : 0 ≤ i) (h1 : i < (xs.length : Int)) : L2.atI xs i = some (xs.getD i.toNat d) := by
  have hl : i.toNat < xs.length := by omega
  have e : L2.atI xs ((i.toNat : Nat) : Int) = some (xs.getD i.toNat d) := L2.atI_nat (by rw [List.getD_eq_getElem?_getD, List.getElem?_eq_getElem hl]; rfl)
  rw [Int.toNat_of_nonneg h0] at e
  exact e
/-- a list of ints at a place -/
theorem d_ixInts (ns : List Int) {x : Dv} {i : Int} (l : SqD μ x (ns.map Dv.int)) (h0 : 0 ≤ i) (h1 : i < (ns.length : Int)) (h : k (.int (ns.getD i.toNat 0)) μ) : DOp K (rIx K) x (.int i) μ k :=
  d_ixL l (d := .int (ns.getD i.toNat 0)) (by
    rw [at_getD (.int 0) h0 (by rw [List.length_map]; exact h1)]
    congr 1
    exact getD_mapF Dv.int ns i.toNat 0) h
/-- a list of anything at a place -/
theorem d_ixMap {α : Type} (f : α → Dv) (xs : List α) (z : α) {x : Dv} {i : Int} (l : SqD μ x (xs.map f)) (h0 : 0 ≤ i) (h1 : i < (xs.length : Int)) (h : k (f (xs.getD i.toNat z)) μ) : DOp K (rIx K) x (.int i) μ k :=
  d_ixL l (d := f (xs.getD i.toNat z)) (by
    rw [at_getD (f z) h0 (by rw [List.length_map]; exact h1)]
    congr 1
    exact getD_mapF f xs i.toNat z) h
end
end DL

/-! ## Data that == compares as Lean does -/
namespace DL
open PySem PySem.Spec L2
structure Enc (α : Type) [DecidableEq α] where
  dv : α → Dv
  py : α → PyData
  n : Nat
  toPy : ∀ x, DL.toPy (dv x) = some (py x)
  lay : ∀ x, (py x).canLay0 = true
  dep : ∀ x, (py x).depth ≤ n
  eqv : ∀ x y, PyData.eqv (py x) (py y) = decide (x = y)
theorem Enc.shaped {α : Type} [DecidableEq α] (E : Enc α) (h : E.n ≤ 64) (x : α) : SeqAt.shaped (E.py x) = true := by
  unfold SeqAt.shaped
  rw [E.lay x, decide_eq_true (Nat.le_trans (E.dep x) h)]
  rfl
def Enc.int : Enc Int := ⟨Dv.int, PyData.int, 0, fun _ => by unfold DL.toPy; rfl, fun _ => by unfold PyData.canLay0; rfl, fun _ => by unfold PyData.depth; exact Nat.le_refl _, fun x y => by
  unfold PyData.eqv
  by_cases e : x = y
  · subst e; simp
  · rw [decide_eq_false e]; simpa using e⟩
theorem depthAll_le {xs : List PyData} {n : Nat} (h : ∀ x ∈ xs, x.depth ≤ n) : PyData.depthAll xs ≤ n := by
  induction xs with
  | nil => unfold PyData.depthAll; omega
  | cons x r ih =>
    unfold PyData.depthAll
    have h1 := h x List.mem_cons_self
    have h2 := ih fun y hy => h y (List.mem_cons_of_mem _ hy)
    omega
theorem layAll_of {xs : List PyData} (h : ∀ x ∈ xs, x.canLay0 = true) : PyData.canLayAll0 xs = true := by
  induction xs with
  | nil => unfold PyData.canLayAll0; rfl
  | cons x r ih =>
    unfold PyData.canLayAll0
    rw [h x List.mem_cons_self, ih fun y hy => h y (List.mem_cons_of_mem _ hy)]
    rfl
def Enc.pair {α β : Type} [DecidableEq α] [DecidableEq β] (E : Enc α) (G : Enc β) : Enc (α × β) where
  dv p := .tup [E.dv p.1, G.dv p.2]
  py p := .tuple [E.py p.1, G.py p.2]
  n := max E.n G.n + 1
  toPy p := by unfold DL.toPy DL.toPys; rw [E.toPy]; unfold DL.toPys; rw [G.toPy]; unfold DL.toPys; rfl
  lay p := by unfold PyData.canLay0; exact layAll_of (by intro x hx; rcases List.mem_cons.mp hx with rfl | hx; exact E.lay _; rcases List.mem_cons.mp hx with rfl | hx; exact G.lay _; cases hx)
  dep p := by
    unfold PyData.depth
    have : PyData.depthAll [E.py p.1, G.py p.2] ≤ max E.n G.n := depthAll_le (by
      intro x hx
      rcases List.mem_cons.mp hx with rfl | hx
      · exact Nat.le_trans (E.dep _) (Nat.le_max_left _ _)
      rcases List.mem_cons.mp hx with rfl | hx
      · exact Nat.le_trans (G.dep _) (Nat.le_max_right _ _)
      cases hx)
    omega
  eqv p q := by
    unfold PyData.eqv PyData.eqvAll PyData.eqvAll PyData.eqvAll
    rw [E.eqv, G.eqv]
    obtain ⟨a, b⟩ := p
    obtain ⟨c, d⟩ := q
    by_cases h1 : a = c
    · by_cases h2 : b = d
      · simp [h1, h2]
      · simp [h1, h2]
    · simp [h1]
theorem toPys_map {α : Type} [DecidableEq α] (E : Enc α) (xs : List α) : DL.toPys (xs.map E.dv) = some (xs.map E.py) := by
  induction xs with
  | nil => rw [List.map_nil]; unfold DL.toPys; rfl
  | cons x r ih => rw [List.map_cons]; unfold DL.toPys; rw [E.toPy, ih]; rfl
theorem eqvAll_map {α : Type} [DecidableEq α] (E : Enc α) : ∀ xs ys : List α, PyData.eqvAll (xs.map E.py) (ys.map E.py) = decide (xs = ys)
  | [], [] => by rw [List.map_nil]; unfold PyData.eqvAll; rfl
  | [], y :: ys => by rw [List.map_nil, List.map_cons]; unfold PyData.eqvAll; rfl
  | x :: xs, [] => by rw [List.map_nil, List.map_cons]; unfold PyData.eqvAll; rfl
  | x :: xs, y :: ys => by
    rw [List.map_cons, List.map_cons]
    unfold PyData.eqvAll
    rw [E.eqv, eqvAll_map E xs ys]
    by_cases h1 : x = y
    · by_cases h2 : xs = ys
      · simp [h1, h2]
      · simp [h1, h2]
    · simp [h1]
def Enc.list {α : Type} [DecidableEq α] (E : Enc α) : Enc (List α) where
  dv xs := .lst (xs.map E.dv)
  py xs := .list (xs.map E.py)
  n := E.n + 1
  toPy xs := by unfold DL.toPy; rw [toPys_map]; rfl
  lay xs := by unfold PyData.canLay0; exact layAll_of (by intro x hx; obtain ⟨a, _, rfl⟩ := List.mem_map.mp hx; exact E.lay a)
  dep xs := by
    unfold PyData.depth
    have : PyData.depthAll (xs.map E.py) ≤ E.n := depthAll_le (by intro x hx; obtain ⟨a, _, rfl⟩ := List.mem_map.mp hx; exact E.dep a)
    omega
  eqv xs ys := by unfold PyData.eqv; exact eqvAll_map E xs ys
/-- the same of a list that nobody may change -/
def Enc.fro {α : Type} [DecidableEq α] (E : Enc α) : Enc (List α) where
  dv xs := .fro (xs.map E.dv)
  py xs := .list (xs.map E.py)
  n := E.n + 1
  toPy xs := by unfold DL.toPy; rw [toPys_map]; rfl
  lay := E.list.lay
  dep := E.list.dep
  eqv := E.list.eqv
section
variable {K : Kf} {μ : M} {k : DK}
theorem d_eqE {α : Type} [DecidableEq α] (E : Enc α) (hn : E.n ≤ 64) {x y : α} {d e : Dv} (hd : d = E.dv x := by rfl) (he : e = E.dv y := by rfl) (h : k (.bl (decide (x = y))) μ) : DOp K (rEqA K) d e μ k := by
  subst hd; subst he
  exact d_eqD (E.toPy x) (E.toPy y) (E.shaped hn x) (E.shaped hn y) (by rw [E.eqv]; exact h)
theorem d_neE {α : Type} [DecidableEq α] (E : Enc α) (hn : E.n ≤ 64) {x y : α} {d e : Dv} (hd : d = E.dv x := by rfl) (he : e = E.dv y := by rfl) (h : k (.bl (!decide (x = y))) μ) : DOp K (rNeA K) d e μ k := by
  subst hd; subst he
  exact d_neD (E.toPy x) (E.toPy y) (E.shaped hn x) (E.shaped hn y) (by rw [E.eqv]; exact h)
/-- against the empty list -/
theorem d_neNil {α : Type} [DecidableEq α] (E : Enc α) (hn : E.n + 1 ≤ 64) {d : Dv} (xs : List α) (l : d = .lst (xs.map E.dv) ∨ d = .fro (xs.map E.dv)) (h : k (.bl (!decide (xs = []))) μ) : DOp K (rNeA K) d (.lst []) μ k := by
  have e0 : DL.toPy (.lst []) = some (.list []) := by unfold DL.toPy DL.toPys; rfl
  have s0 : SeqAt.shaped (.list []) = true := by decide +kernel
  have e1 : DL.toPy d = some (E.list.py xs) := by
    rcases l with rfl | rfl
    · exact E.list.toPy xs
    · exact E.fro.toPy xs
  exact d_neD e1 e0 (E.list.shaped hn xs) s0 (by
    have := E.list.eqv xs []
    have e2 : E.list.py [] = .list [] := rfl
    rw [e2] at this
    rw [this]; exact h)
theorem d_eqNil {α : Type} [DecidableEq α] (E : Enc α) (hn : E.n + 1 ≤ 64) {d : Dv} (xs : List α) (l : d = .lst (xs.map E.dv) ∨ d = .fro (xs.map E.dv)) (h : k (.bl (decide (xs = []))) μ) : DOp K (rEqA K) d (.lst []) μ k := by
  have e0 : DL.toPy (.lst []) = some (.list []) := by unfold DL.toPy DL.toPys; rfl
  have s0 : SeqAt.shaped (.list []) = true := by decide +kernel
  have e1 : DL.toPy d = some (E.list.py xs) := by
    rcases l with rfl | rfl
    · exact E.list.toPy xs
    · exact E.fro.toPy xs
  exact d_eqD e1 e0 (E.list.shaped hn xs) s0 (by
    have := E.list.eqv xs []
    have e2 : E.list.py [] = .list [] := rfl
    rw [e2] at this
    rw [this]; exact h)
end
end DL
namespace DL
open PySem PySem.Spec L2
section
variable {X : Cx} {W : WX} {KE : XD} {e a b c : Expr} {n : En} {μ : M} {kb : Bool → M → Prop} {pos : Pos} {kl : Nat}
def kB (kb : Bool → M → Prop) : DK := fun z μ' => ∃ c, z = .bl c ∧ kb c μ'
theorem jt_cmp {op : CmpOp} {r : R2} (ho : OpR X (compareOp op) r) (hm : behindInMarks op b = false) (h : JE X W KE a n μ fun x μ1 => JE X W KE b n μ1 fun y μ2 => DOp X.K r x y μ2 (kB kb)) : JT X W KE (.Compare a [op] [b] pos) n μ kb :=
  jt_of (pt_cmpR ho peC peC hm) fun σ H Q ev rp t q => by
    refine h σ H _ ev rp t fun u x H1 μ1 h1 s1 r1 d1 => ?_
    refine h1 σ H1 _ (ev.step s1) r1 (t.step s1) fun v y H2 μ2 h2 s2 r2 d2 => ?_
    refine h2 u v H2 _ r2 (d1.step s2) d2 fun w d H3 μ3 h3 s3 r3 d3 => ?_
    obtain ⟨c, rfl, h4⟩ := h3
    cases d3
    exact ⟨c, rfl, q _ _ μ3 h4 ((s1.trans s2).trans s3) r3⟩
theorem jt_lt (h : JE X W KE a n μ fun x μ1 => JE X W KE b n μ1 fun y μ2 => DOp X.K (rI0 fun i j => V.bl (decide (i < j))) x y μ2 (kB kb)) : JT X W KE (.Compare a [.Lt] [b] pos) n μ kb := jt_cmp op_lt (nomark _) h
theorem jt_le (h : JE X W KE a n μ fun x μ1 => JE X W KE b n μ1 fun y μ2 => DOp X.K (rI0 fun i j => V.bl (decide (i ≤ j))) x y μ2 (kB kb)) : JT X W KE (.Compare a [.LtE] [b] pos) n μ kb := jt_cmp op_le (nomark _) h
theorem jt_gt (h : JE X W KE a n μ fun x μ1 => JE X W KE b n μ1 fun y μ2 => DOp X.K (rI0 fun i j => V.bl (decide (j < i))) x y μ2 (kB kb)) : JT X W KE (.Compare a [.Gt] [b] pos) n μ kb := jt_cmp op_gt (nomark _) h
theorem jt_ge (h : JE X W KE a n μ fun x μ1 => JE X W KE b n μ1 fun y μ2 => DOp X.K (rI0 fun i j => V.bl (decide (j ≤ i))) x y μ2 (kB kb)) : JT X W KE (.Compare a [.GtE] [b] pos) n μ kb := jt_cmp op_ge (nomark _) h
theorem jt_eq (c : Cok kl X W) (h : JE X W KE a n μ fun x μ1 => JE X W KE b n μ1 fun y μ2 => DOp X.K (rEqA X.K) x y μ2 (kB kb)) : JT X W KE (.Compare a [.Eq] [b] pos) n μ kb := jt_cmp (OpR.or op_eq (op_eqD c.room.units)) (nomark _) h
theorem jt_ne (c : Cok kl X W) (h : JE X W KE a n μ fun x μ1 => JE X W KE b n μ1 fun y μ2 => DOp X.K (rNeA X.K) x y μ2 (kB kb)) : JT X W KE (.Compare a [.NotEq] [b] pos) n μ kb := jt_cmp (OpR.or op_ne (op_neD c.room.units)) (nomark _) h
theorem jt_is (h : JE X W KE a n μ fun x μ1 => JE X W KE b n μ1 fun y μ2 => DOp X.K (fun x y H Q => y = .non ∧ Q (.bl (decide (x = .non))) H) x y μ2 (kB kb)) (hm : behindInMarks .Is b = false := by exact nomark _) : JT X W KE (.Compare a [.Is] [b] pos) n μ kb := jt_cmp op_isN hm h
theorem jt_isnot (h : JE X W KE a n μ fun x μ1 => JE X W KE b n μ1 fun y μ2 => DOp X.K (fun x y H Q => y = .non ∧ Q (.bl (!decide (x = .non))) H) x y μ2 (kB kb)) (hm : behindInMarks .IsNot b = false := by exact nomark _) : JT X W KE (.Compare a [.IsNot] [b] pos) n μ kb := jt_cmp op_notN hm h
theorem jt_chain {op op' : CmpOp} {r r' : R2} (ho : OpR X (compareOp op) r) (ho' : OpR X (compareOp op') r')
    (h : JE X W KE a n μ fun x μ1 => JE X W KE b n μ1 fun y μ2 => DOp X.K r x y μ2 fun z μ3 => ∃ b, z = .bl b ∧ (b = true → JE X W KE c n μ3 fun w μ4 => DOp X.K r' y w μ4 (kB kb)) ∧ (b = false → kb false μ3))
    (hm : lastMarks [op, op'] [b, c] = false := by with_unfolding_all rfl) : JT X W KE (.Compare a [op, op'] [b, c] pos) n μ kb :=
  jt_of (pt_chain ho ho' peC peC peC hm) fun σ H Q ev rp t q => by
    refine h σ H _ ev rp t fun u x H1 μ1 h1 s1 r1 d1 => ?_
    refine h1 σ H1 _ (ev.step s1) r1 (t.step s1) fun v y H2 μ2 h2 s2 r2 d2 => ?_
    refine h2 u v H2 _ r2 (d1.step s2) d2 fun z d3 H3 μ3 h3 s3 r3 d3' => ?_
    obtain ⟨b, rfl, ht, hf⟩ := h3
    cases d3'
    refine ⟨b, rfl, ?_⟩
    have s13 := (s1.trans s2).trans s3
    cases b with
    | true =>
      rw [if_pos rfl]
      refine ht rfl σ H3 _ (ev.step s13) r3 (t.step s13) fun w y4 H4 μ4 h4 s4 r4 d4 => ?_
      refine h4 v w H4 _ r4 (d2.step (s3.trans s4)) d4 fun w5 d5 H5 μ5 h5 s5 r5 d5' => ?_
      obtain ⟨c, rfl, h6⟩ := h5
      cases d5'
      exact ⟨c, rfl, q _ _ μ5 h6 ((s13.trans s4).trans s5) r5⟩
    | false =>
      rw [if_neg Bool.false_ne_true]
      exact ⟨false, rfl, q _ _ μ3 (hf rfl) s13 r3⟩
theorem d_lenM {α : Type} {f : α → Dv} {k : DK} {K : Kf} {x : Dv} {xs : List α} (l : SqD μ x (xs.map f)) (h : k (.int xs.length) μ) : DCl K (rLenA K) [x] μ k := d_lenL l (by rw [List.length_map]; exact h)
theorem je_frz {k : DK} {e : Expr} (h : JE X W KE e n μ fun d μ' => ∃ a xs, d = .obj a ∧ μ' a = some (.lst xs) ∧ k (.lst xs) (delM μ' a)) : JE X W KE e n μ k := fun σ H Q ev rp t q => by
  refine h σ H Q ev rp t fun v d H' μ' h1 s1 r1 d1 => ?_
  obtain ⟨a, xs, rfl, ha, hk⟩ := h1
  cases d1
  obtain ⟨vs, e1, rr⟩ := r1 _ _ ha
  exact q _ _ _ _ hk (s1.trans Step.freeze) r1.freeze (.lst e1 delM_same (rr.step Step.freeze))
theorem env_put {K : Kf} {μ : M} {H : Hp} {σ : L2.St} {n : En} {i : Nat} {v : V} {d : Dv} (ev : Env K μ H σ n) (hs : σ[i]? = some (some v)) (r : DRep K μ H v d) : Env K μ H σ (n.set i (some d)) := by
  refine ⟨by rw [List.length_set]; exact ev.1, fun j x q => ?_⟩
  by_cases z : i = j
  · subst z
    by_cases hl : i < n.length
    · rw [List.getElem?_set_self hl] at q
      cases q
      exact ⟨v, hs, r⟩
    · rw [List.getElem?_eq_none (by rw [List.length_set]; omega)] at q
      cases q
  · rw [List.getElem?_set_ne z] at q
    exact ev.2 j x q
theorem jb_freeze {sts : List Stmt} {P : Ed} (i : Nat) {a : Addr} {xs : List Dv} (hn : n[i]? = some (some (.obj a))) (ha : μ a = some (.lst xs)) (h : JB X W KE sts (n.set i (some (.lst xs))) (delM μ a) P) : JB X W KE sts n μ P := fun σ H D ev rp t q => by
  obtain ⟨v, hs, dv⟩ := ev.2 i _ hn
  cases dv
  obtain ⟨vs, e1, rr⟩ := rp _ _ ha
  refine h σ H D (env_put (ev.step Step.freeze) hs (.lst e1 delM_same (rr.step Step.freeze))) rp.freeze (t.step Step.freeze) (q.step Step.freeze)
end
def cutG {α : Type} (xs : List α) (lo hi : Option Int) : List α := (xs.drop (HT.sIx xs.length 0 lo)).take (HT.sIx xs.length xs.length hi - HT.sIx xs.length 0 lo)
theorem cutD_map {α : Type} (f : α → Dv) (xs : List α) (lo hi : Option Int) : cutD (xs.map f) lo hi = (cutG xs lo hi).map f := by
  unfold cutD cutG
  rw [List.length_map, List.map_take, List.map_drop]
theorem cutG_len {α : Type} (xs : List α) (lo hi : Option Int) : (cutG xs lo hi).length ≤ xs.length := by
  unfold cutG
  rw [List.length_take, List.length_drop]
  omega
theorem cutG_mem {α : Type} {xs : List α} {lo hi : Option Int} {x : α} (h : x ∈ cutG xs lo hi) : x ∈ xs := List.mem_of_mem_drop (List.mem_of_mem_take h)
end DL

/-! ## more operators, more calls -/
namespace DL
open PySem PySem.Spec L2
section
variable {X : Cx}
theorem bl_beq (a b : Bool) : (Value.bool a == Value.bool b) = decide (a = b) := by cases a <;> cases b <;> rfl
def rIsB (neg : Bool) : R2 := fun x y H Q => ∃ a b, x = .bl a ∧ y = .bl b ∧ Q (.bl (if neg then !decide (a = b) else decide (a = b))) H
theorem op_isB : OpR X (compareOp .Is) (rIsB false) := by
  intro pins s σ H x y v u Q I rx ry h
  obtain ⟨a, b, rfl, rfl, q⟩ := h
  cases (show v = Value.bool a from rx)
  cases (show u = Value.bool b from ry)
  exact wpAny_is_plain rfl (fin_bl I q (bl_beq a b).symm)
theorem op_isnotB : OpR X (compareOp .IsNot) (rIsB true) := by
  intro pins s σ H x y v u Q I rx ry h
  obtain ⟨a, b, rfl, rfl, q⟩ := h
  cases (show v = Value.bool a from rx)
  cases (show u = Value.bool b from ry)
  exact wpAny_isNot_plain rfl (fin_bl I q (congrArg not (bl_beq a b).symm))
end
section
variable {X : Cx} {W : WX} {KE : XD} {e a b c : Expr} {n : En} {μ : M} {k : DK} {kb : Bool → M → Prop} {pos : Pos} {kl : Nat} {K : Kf}
theorem je_isB (h : JE X W KE a n μ fun x μ1 => JE X W KE b n μ1 fun y μ2 => DOp X.K (rIsB false) x y μ2 k) (hm : behindInMarks .Is b = false := by exact nomark _) : JE X W KE (.Compare a [.Is] [b] pos) n μ k := je_cmp op_isB hm h
theorem jt_isB (h : JE X W KE a n μ fun x μ1 => JE X W KE b n μ1 fun y μ2 => DOp X.K (rIsB false) x y μ2 (kB kb)) (hm : behindInMarks .Is b = false := by exact nomark _) : JT X W KE (.Compare a [.Is] [b] pos) n μ kb := jt_cmp op_isB hm h
theorem je_isnotB (h : JE X W KE a n μ fun x μ1 => JE X W KE b n μ1 fun y μ2 => DOp X.K (rIsB true) x y μ2 k) (hm : behindInMarks .IsNot b = false := by exact nomark _) : JE X W KE (.Compare a [.IsNot] [b] pos) n μ k := je_cmp op_isnotB hm h
theorem jt_isnotB (h : JE X W KE a n μ fun x μ1 => JE X W KE b n μ1 fun y μ2 => DOp X.K (rIsB true) x y μ2 (kB kb)) (hm : behindInMarks .IsNot b = false := by exact nomark _) : JT X W KE (.Compare a [.IsNot] [b] pos) n μ kb := jt_cmp op_isnotB hm h
theorem d_isB {p q : Bool} (h : k (.bl (decide (p = q))) μ) : DOp K (rIsB false) (.bl p) (.bl q) μ k := fun u v H Q r du dv t => by
  cases du; cases dv
  exact ⟨p, q, rfl, rfl, tl_pure t h r (.bl _)⟩
theorem d_isnotB {p q : Bool} (h : k (.bl (!decide (p = q))) μ) : DOp K (rIsB true) (.bl p) (.bl q) μ k := fun u v H Q r du dv t => by
  cases du; cases dv
  exact ⟨p, q, rfl, rfl, tl_pure t h r (.bl _)⟩
/-- x in l, x not in l: all data -/
theorem je_in (c : Cok kl X W) (h : JE X W KE a n μ fun x μ1 => JE X W KE b n μ1 fun y μ2 => DOp X.K (rInD X.K) x y μ2 k) (hm : behindInMarks .In b = false := by rfl) : JE X W KE (.Compare a [.In] [b] pos) n μ k := je_cmp (op_inD (by have := c.room.un; omega)) hm h
theorem jt_in (c : Cok kl X W) (h : JE X W KE a n μ fun x μ1 => JE X W KE b n μ1 fun y μ2 => DOp X.K (rInD X.K) x y μ2 (kB kb)) (hm : behindInMarks .In b = false := by rfl) : JT X W KE (.Compare a [.In] [b] pos) n μ kb := jt_cmp (op_inD (by have := c.room.un; omega)) hm h
theorem d_inD {x y : Dv} {p : PyData} {qs : List PyData} (hx : toPy x = some p) (hy : toPy y = some (.list qs)) (sp : SeqAt.shaped p = true) (sq : SeqAt.shaped (.list qs) = true) (h : k (.bl (qs.any fun z => PyData.eqv z p)) μ) : DOp K (rInD K) x y μ k := fun u v H Q r du dv t =>
  ⟨p, qs, du.dp hx, dv.dp hy, sp, sq, tl_pure t h r (.bl _)⟩
theorem any_eqvE {α : Type} [DecidableEq α] (E : Enc α) (x : α) : ∀ xs : List α, ((xs.map E.py).any fun z => PyData.eqv z (E.py x)) = decide (x ∈ xs)
  | [] => rfl
  | y :: ys => by
    rw [List.map_cons, List.any_cons, E.eqv, any_eqvE E x ys]
    by_cases h : y = x
    · subst h; simp
    · have : ¬ x = y := fun z => h z.symm
      simp [h, this]
theorem d_inE {α : Type} [DecidableEq α] (E : Enc α) (hn : E.n + 1 ≤ 64) {x : α} {xs : List α} {d e : Dv} (hd : d = E.dv x := by rfl) (he : e = .lst (xs.map E.dv) := by rfl) (h : k (.bl (decide (x ∈ xs))) μ) : DOp K (rInD K) d e μ k := by
  subst hd; subst he
  exact d_inD (E.toPy x) (E.list.toPy xs) (E.shaped (by omega) x) (E.list.shaped hn xs) (by rw [any_eqvE]; exact h)
end
/-- None or an encoded thing -/
def Enc.opt : Enc (Option Int) where
  dv o := match o with
    | none => .non
    | some i => .int i
  py o := match o with
    | none => .none
    | some i => .int i
  n := 0
  toPy o := by cases o <;> (unfold DL.toPy; rfl)
  lay o := by cases o <;> (unfold PyData.canLay0; rfl)
  dep o := by cases o <;> (unfold PyData.depth; exact Nat.le_refl _)
  eqv x y := by
    cases x with
    | none => cases y with
      | none => unfold PyData.eqv; rfl
      | some y => unfold PyData.eqv; rfl
    | some x => cases y with
      | none => unfold PyData.eqv; rfl
      | some y =>
        show PyData.eqv (.int x) (.int y) = _
        have := Enc.int.eqv x y
        rw [show Enc.int.py x = PyData.int x from rfl, show Enc.int.py y = PyData.int y from rfl] at this
        rw [this]; simp
end DL
namespace DL
open PySem PySem.Spec L2
section
variable {X : Cx} {scope : Scope} {ifs : List Expr} {elt : Expr} {i : Nat} {n : En} {k : DK}
/-- a comprehension over encoded things, that changes nothing -/
theorem lc_map {α : Type} (dv : α → Dv) (xs : List α) (g : α → Option Dv) {s : Src} {μ1 : M} (hs : s.items = xs.map dv) (hok : s.Ok μ1) (hl : xs.length < sizeLine)
    (h : ∀ (j : Nat) (x : α) (μ' : M), xs[j]? = some x → ExtM μ1 μ' → LcTurn X scope ifs elt ((n.set i none).set i (some (dv x))) μ' fun o μ3 => o = g x ∧ μ3 = μ') (hk : k (.lst (xs.filterMap g)) μ1) : LcAll X scope ifs elt i n k s μ1 := fun a ha => by
  have ex : ∀ acc, ExtM μ1 (updM μ1 a (.lst acc)) := fun acc b u e => by rw [updM_ne (ne_ofM e ha)]; exact e
  refine ⟨fun j acc μ' => acc = (xs.take j).filterMap g ∧ μ' = updM μ1 a (.lst acc), ⟨rfl, rfl⟩, ?_, ?_, ?_⟩
  · rintro j acc μ' ⟨rfl, rfl⟩
    refine ⟨hok.ext (ex _), updM_same, Nat.lt_of_le_of_lt (List.length_filterMap_le _ _) ?_⟩
    rw [List.length_take]; omega
  · rintro j x acc μ' hx ⟨rfl, rfl⟩
    rw [hs, List.getElem?_map] at hx
    cases hxx : xs[j]? with
    | none => rw [hxx] at hx; cases hx
    | some x0 =>
    rw [hxx] at hx
    cases hx
    have ht : (xs.take (j + 1)).filterMap g = (xs.take j).filterMap g ++ (match g x0 with | some y => [y] | none => []) := by
      rw [List.take_add_one, List.filterMap_append, hxx]
      cases e : g x0 with
      | none => simp [e]
      | some y => simp [e]
    intro s1 H1 C1 cl1 fp1
    have hT := h j x0 _ hxx (ex ((xs.take j).filterMap g)) s1 H1 C1 cl1 fp1
    have go : ∀ (b : Bool) (μ2 : M), ((b = true → ∀ (sS : Shared) (H : Hp) (C : Addr) (cl : List (Str × Addr)) (fp : List Addr), JE (X.blk sS H scope (compEnvC scope cl C X.env) fp) W0 KE0 elt ((n.set i none).set i (some (dv x0))) μ2 fun y μ3 => some y = g x0 ∧ μ3 = updM μ1 a (.lst ((xs.take j).filterMap g))) ∧ (b = false → none = g x0 ∧ μ2 = updM μ1 a (.lst ((xs.take j).filterMap g)))) →
        ((b = true → ∀ (sS : Shared) (H : Hp) (C : Addr) (cl : List (Str × Addr)) (fp : List Addr), JE (X.blk sS H scope (compEnvC scope cl C X.env) fp) W0 KE0 elt ((n.set i none).set i (some (dv x0))) μ2 fun y μ3 => μ3 a = some (.lst ((xs.take j).filterMap g)) ∧ ((xs.take j).filterMap g ++ [y] = (xs.take (j + 1)).filterMap g ∧ updM μ3 a (.lst ((xs.take j).filterMap g ++ [y])) = updM μ1 a (.lst ((xs.take j).filterMap g ++ [y])))) ∧ (b = false → (xs.take j).filterMap g = (xs.take (j + 1)).filterMap g ∧ μ2 = updM μ1 a (.lst ((xs.take j).filterMap g)))) := fun b μ2 z => ⟨fun hb sS H C cl fp => (z.1 hb sS H C cl fp).mono fun y μ3 ⟨z1, z2⟩ => by
          subst z2
          exact ⟨updM_same, by rw [ht, ← z1], updM_updM⟩, fun hb => by
          obtain ⟨z1, z2⟩ := z.2 hb
          exact ⟨by rw [ht, ← z1, List.append_nil], z2⟩⟩
    match ifs, hT with
    | [], hT => exact go _ _ hT
    | [c], hT => exact JT.mono hT fun b μ2 z => go _ _ z
  · rintro acc μ' ⟨rfl, rfl⟩
    rw [hs, List.length_map, List.take_length]
    exact .inl (by rw [delM_updM ha]; exact hk)
end
end DL
namespace DL
open PySem PySem.Spec L2
section
variable {X : Cx} {W : WX} {KE : XD} {a b c e : Expr} {rest : List Expr} {n : En} {μ : M} {k : DK} {kb : Bool → M → Prop} {pos : Pos}
theorem JW.mono {kb kb' : Bool → M → Prop} (h : JW X W KE e n μ kb) (m : ∀ b μ', kb b μ' → kb' b μ') : JW X W KE e n μ kb' := fun σ H Q ev rp t q => h σ H Q ev rp t fun b H' μ' hk s r => q b H' μ' (m b μ' hk) s r
/-- tests that change nothing, told by their values -/
theorem jw_andP (v1 v2 : Bool) (h1 : JT X W KE a n μ fun c μ' => c = v1 ∧ μ' = μ) (h2 : v1 = true → JW X W KE (.BoolOp .And (b :: rest) pos) n μ fun c μ' => c = v2 ∧ μ' = μ) (hk : kb (v1 && v2) μ) : JW X W KE (.BoolOp .And (a :: b :: rest) pos) n μ kb :=
  jw_and (h1.mono fun c μ' ⟨e1, e2⟩ => by
    subst e1; subst e2
    refine ⟨fun z => (h2 z).mono fun d μ2 ⟨e3, e4⟩ => ?_, fun z => ?_⟩
    · subst e3; subst e4; rw [z] at hk; exact hk
    · rw [z] at hk; exact hk)
theorem jw_orP (v1 v2 : Bool) (h1 : JT X W KE a n μ fun c μ' => c = v1 ∧ μ' = μ) (h2 : v1 = false → JW X W KE (.BoolOp .Or (b :: rest) pos) n μ fun c μ' => c = v2 ∧ μ' = μ) (hk : kb (v1 || v2) μ) : JW X W KE (.BoolOp .Or (a :: b :: rest) pos) n μ kb :=
  jw_or (h1.mono fun c μ' ⟨e1, e2⟩ => by
    subst e1; subst e2
    refine ⟨fun z => ?_, fun z => (h2 z).mono fun d μ2 ⟨e3, e4⟩ => ?_⟩
    · rw [z] at hk; exact hk
    · subst e3; subst e4; rw [z] at hk; exact hk)
theorem je_andP (v1 v2 : Bool) (h1 : JE X W KE a n μ fun d μ' => d = .bl v1 ∧ μ' = μ) (h2 : v1 = true → JE X W KE (.BoolOp .And (b :: rest) pos) n μ fun d μ' => d = .bl v2 ∧ μ' = μ) (hk : k (.bl (v1 && v2)) μ) : JE X W KE (.BoolOp .And (a :: b :: rest) pos) n μ k :=
  je_and (h1.mono fun d μ' ⟨e1, e2⟩ => by
    subst e1; subst e2
    refine ⟨v1, rfl, fun z => (h2 z).mono fun d μ2 ⟨e3, e4⟩ => ?_, fun z => ?_⟩
    · subst e3; subst e4; rw [z] at hk; exact hk
    · rw [z] at hk; exact hk)
theorem je_orP (v1 v2 : Bool) (h1 : JE X W KE a n μ fun d μ' => d = .bl v1 ∧ μ' = μ) (h2 : v1 = false → JE X W KE (.BoolOp .Or (b :: rest) pos) n μ fun d μ' => d = .bl v2 ∧ μ' = μ) (hk : k (.bl (v1 || v2)) μ) : JE X W KE (.BoolOp .Or (a :: b :: rest) pos) n μ k :=
  je_or (h1.mono fun d μ' ⟨e1, e2⟩ => by
    subst e1; subst e2
    refine ⟨v1, rfl, fun z => ?_, fun z => (h2 z).mono fun d μ2 ⟨e3, e4⟩ => ?_⟩
    · rw [z] at hk; exact hk
    · subst e3; subst e4; rw [z] at hk; exact hk)
theorem je_one' {op : BoolOp} (h : JE X W KE a n μ k) : JE X W KE (.BoolOp op [a] pos) n μ k := je_one h
end
end DL
namespace DL
open PySem PySem.Spec L2
section
variable {X : Cx} {W : WX} {KE : XD} {a b c e : Expr} {rest : List Expr} {n : En} {μ : M} {k : DK} {kb : Bool → M → Prop} {pos : Pos} {K : Kf}
theorem DOp.mono {r : R2} {x y : Dv} {k k' : DK} (h : DOp K r x y μ k) (m : ∀ d μ', k d μ' → k' d μ') : DOp K r x y μ k' := fun u v H Q rp du dv t => h u v H Q rp du dv fun w d H' μ' hk => t w d H' μ' (m d μ' hk)
theorem je_chainP {op op' : CmpOp} {r r' : R2} (ho : OpR X (compareOp op) r) (ho' : OpR X (compareOp op') r') (v1 v2 : Bool) (hm : lastMarks [op, op'] [b, c] = false)
    (h : JE X W KE a n μ fun x μ1 => JE X W KE b n μ1 fun y μ2 => DOp X.K r x y μ2 fun z μ3 => (z = .bl v1 ∧ μ3 = μ) ∧ (v1 = true → JE X W KE c n μ3 fun w μ4 => DOp X.K r' y w μ4 fun z' μ5 => z' = .bl v2 ∧ μ5 = μ))
    (hk : k (.bl (v1 && v2)) μ) : JE X W KE (.Compare a [op, op'] [b, c] pos) n μ k :=
  je_chain ho ho' (h.mono fun x μ1 h1 => h1.mono fun y μ2 h2 => h2.mono fun z μ3 ⟨⟨e1, e2⟩, h3⟩ => by
    subst e1; subst e2
    refine ⟨v1, rfl, fun z => (h3 z).mono fun w μ4 h4 => h4.mono fun z' μ5 ⟨e3, e4⟩ => ?_, fun z => ?_⟩
    · subst e3; subst e4; rw [z] at hk; exact hk
    · rw [z] at hk; exact hk) hm
theorem jt_chainP {op op' : CmpOp} {r r' : R2} (ho : OpR X (compareOp op) r) (ho' : OpR X (compareOp op') r') (v1 v2 : Bool) (hm : lastMarks [op, op'] [b, c] = false)
    (h : JE X W KE a n μ fun x μ1 => JE X W KE b n μ1 fun y μ2 => DOp X.K r x y μ2 fun z μ3 => (z = .bl v1 ∧ μ3 = μ) ∧ (v1 = true → JE X W KE c n μ3 fun w μ4 => DOp X.K r' y w μ4 fun z' μ5 => z' = .bl v2 ∧ μ5 = μ))
    (hk : kb (v1 && v2) μ) : JT X W KE (.Compare a [op, op'] [b, c] pos) n μ kb :=
  jt_chain ho ho' (h.mono fun x μ1 h1 => h1.mono fun y μ2 h2 => h2.mono fun z μ3 ⟨⟨e1, e2⟩, h3⟩ => by
    subst e1; subst e2
    refine ⟨v1, rfl, fun z => (h3 z).mono fun w μ4 h4 => h4.mono fun z' μ5 ⟨e3, e4⟩ => ?_, fun z => ?_⟩
    · subst e3; subst e4; exact ⟨_, rfl, by rw [z] at hk; exact hk⟩
    · rw [z] at hk; exact hk) hm
theorem SqD.ext {μ' : M} {d : Dv} {xs : List Dv} (l : SqD μ d xs) (e : ExtM μ μ') : SqD μ' d xs := by
  cases l with
  | lst => exact .lst _
  | fro => exact .fro _
  | obj h => exact .obj (e _ _ h)
/-- a list, mutable or not, as data -/
theorem SqD.dp {H : Hp} {v : V} {d : Dv} {xs : List Dv} {qs : List PyData} (l : SqD μ d xs) (r : Rep K μ H) (q : DRep K μ H v d) (e : toPys xs = some qs) : Dp K H v (.list qs) := by
  cases l with
  | lst => exact q.dp (by unfold DL.toPy; rw [e]; rfl)
  | fro => exact q.dp (by unfold DL.toPy; rw [e]; rfl)
  | obj h => exact q.thaw r h e
theorem d_eqSS {x y : Dv} {xs ys : List Dv} {ps qs : List PyData} (lx : SqD μ x xs) (ly : SqD μ y ys) (hx : toPys xs = some ps) (hy : toPys ys = some qs) (sp : SeqAt.shaped (.list ps) = true) (sq : SeqAt.shaped (.list qs) = true) (h : k (.bl (PyData.eqv (.list ps) (.list qs))) μ) : DOp K (rEqA K) x y μ k := fun u v H Q r du dv t =>
  .inr ⟨_, _, lx.dp r du hx, ly.dp r dv hy, sp, sq, tl_pure t h r (.bl _)⟩
theorem d_neSS {x y : Dv} {xs ys : List Dv} {ps qs : List PyData} (lx : SqD μ x xs) (ly : SqD μ y ys) (hx : toPys xs = some ps) (hy : toPys ys = some qs) (sp : SeqAt.shaped (.list ps) = true) (sq : SeqAt.shaped (.list qs) = true) (h : k (.bl (!PyData.eqv (.list ps) (.list qs))) μ) : DOp K (rNeA K) x y μ k := fun u v H Q r du dv t =>
  .inr ⟨_, _, lx.dp r du hx, ly.dp r dv hy, sp, sq, tl_pure t h r (.bl _)⟩
/-- two lists of encoded things -/
theorem d_eqSE {α : Type} [DecidableEq α] (E : Enc α) (hn : E.n + 1 ≤ 64) {x y : Dv} {xs ys : List α} (lx : SqD μ x (xs.map E.dv)) (ly : SqD μ y (ys.map E.dv)) (h : k (.bl (decide (xs = ys))) μ) : DOp K (rEqA K) x y μ k :=
  d_eqSS lx ly (toPys_map E xs) (toPys_map E ys) (E.list.shaped hn xs) (E.list.shaped hn ys) (by rw [show PyData.eqv (.list (xs.map E.py)) (.list (ys.map E.py)) = decide (xs = ys) from E.list.eqv xs ys]; exact h)
theorem d_neSE {α : Type} [DecidableEq α] (E : Enc α) (hn : E.n + 1 ≤ 64) {x y : Dv} {xs ys : List α} (lx : SqD μ x (xs.map E.dv)) (ly : SqD μ y (ys.map E.dv)) (h : k (.bl (!decide (xs = ys))) μ) : DOp K (rNeA K) x y μ k :=
  d_neSS lx ly (toPys_map E xs) (toPys_map E ys) (E.list.shaped hn xs) (E.list.shaped hn ys) (by rw [show PyData.eqv (.list (xs.map E.py)) (.list (ys.map E.py)) = decide (xs = ys) from E.list.eqv xs ys]; exact h)
/-- the last one of a list -/
theorem d_ixLast {α : Type} (f : α → Dv) {x : Dv} {xs : List α} {p : α} (l : SqD μ x (xs.map f)) (hp : xs.getLast? = some p) (h : k (f p) μ) : DOp K (rIx K) x (.int (-1)) μ k :=
  d_ixL l (d := f p) (by
    have hne : xs ≠ [] := by intro z; subst z; cases hp
    have hl : 0 < xs.length := List.length_pos_iff.mpr hne
    rw [List.getLast?_eq_getElem?] at hp
    unfold L2.atI L2.ixN
    rw [List.length_map, if_neg (by omega)]
    rw [show (if -(xs.length : Int) ≤ -1 then some (-1 + (xs.length : Int)).toNat else none) = some (xs.length - 1) by rw [if_pos (by omega)]; congr 1; omega]
    show (xs.map f)[xs.length - 1]? = _
    rw [List.getElem?_map, hp]
    rfl) h
end
end DL
namespace DL
open PySem PySem.Spec L2
theorem d_powE {K : Kf} {μ : M} {k : DK} {i j v : Int} (hc : CPow i j) (e : i ^ j.toNat = v) (h : k (.int v) μ) : DOp K (rI CPow fun i j => V.int (i ^ j.toNat)) (.int i) (.int j) μ k := d_powI hc (by rw [e]; exact h)
end DL

/-! ## Exceptions as data -/
namespace DL
open PySem PySem.Spec L2
section
variable {X : Cx} {pins : List (Addr × Obj)} {σ : L2.St} {H : Hp} {s : Shared}
/-- an object of ours that was not tracked is tracked from now on -/
theorem inv_adopt {z : Addr} {u : HO} (I : Inv X pins σ H s) (n0 : X.s_0.heap.get? z = none) (nz : H z = none) (nL : X.env.locals ≠ z) (nC : ∀ x c, X.env.cells.lookup x = some c → c ≠ z) (nP : ∀ p ∈ X.pn ++ pins, p.1 ≠ z)
    (new : ObjOk X.prog X.w (upd H z u) s.heap z u) : Inv X pins σ (upd H z u) s where
  ok := I.ok
  os := I.os
  bare := I.bare
  base := ⟨I.base.keep, I.base.slot, fun b o e n hb => by
      have hz : b ≠ z := fun q => by rw [q, n0] at e; cases e
      rw [upd_ne hz]
      exact I.base.free b o e n hb, I.base.there, fun b xs e => by
      have q := I.base.tups b xs e
      rw [upd_ne (ne_of_none q nz)]
      exact q, fun b o w e => by
      have q := I.base.frzs b o w e
      rw [upd_ne (ne_of_none q nz)]
      exact q, fun b ps e => by
      obtain ⟨m, q⟩ := I.base.tbls b ps e
      exact ⟨m, by rw [upd_ne (ne_of_none q nz)]; exact q⟩⟩
  loc := I.loc
  cell := I.cell
  free := by rw [upd_ne nL]; exact I.free
  freeC := fun x c e => by rw [upd_ne (nC x c e)]; exact I.freeC x c e
  pin := fun p hp => by
    obtain ⟨e, n, q⟩ := I.pin p hp
    exact ⟨e, by rw [upd_ne (nP p hp)]; exact n, q⟩
  hok := HOk.laidN I.hok (fun _ _ e => e) nz new
  len := I.len
/-- the context of an except suite whose exception is tracked -/
abbrev suiteK (X : Cx) (z : Addr) (pn : List (Addr × Obj)) : Cx := { X with A := X.A.mark (some (.ref z)), calm := false, pn := pn, xe := fun _ _ => False }
theorem inv_suiteK {z : Addr} (I : Inv X pins σ H s) : Inv (suiteK X z (X.pn ++ pins)) [] σ H s :=
  ⟨Cx.Ok.suite I.ok z _, I.os, I.bare, I.base, I.loc, I.cell, I.free, I.freeC, fun p hp => I.pin p (by rw [List.append_nil] at hp; exact hp), I.hok, I.len⟩
theorem inv_offK {z : Addr} {pq : List (Addr × Obj)} (I : Inv (suiteK X z (X.pn ++ pins)) pq σ H s) (ok : X.Ok) : Inv X pins σ H s :=
  ⟨ok, I.os, I.bare, I.base, I.loc, I.cell, I.free, I.freeC, fun p hp => I.pin p (List.mem_append_left _ hp), I.hok, I.len⟩
theorem exD_ok {P : Program} {w : World} {h : Heap} {z : Addr} {cl : Value} {d : Option Addr} {oe : Obj} {vs : Array Value} (e : h.get? z = some oe) (q : Zc cl d oe) (f : oe.data = .fields vs) : ObjOk P w (upd H z (ExD cl d z)) h z (ExD cl d z) :=
  ⟨⟨oe, vs, e, q, f⟩, ⟨oe, e⟩, fun _ _ ⟨o, v, q, r⟩ k => ⟨o, v, k o q, r⟩⟩
end
/-- what the clause 'except x as n' wishes, the exception kept as a tracked thing -/
def wKeep (K : Kf) (cv : Value) (i : Nat) (ts : TS) (Wout : WX) (D : Ends) : WX := fun cl d σ H =>
  ∃ b, PySem.W.exmOne K cl cv = some b ∧
    (b = true → ∀ z, H z = none → ts ⟨fun σ1 H1 => D.nx (σ1.set i none) H1, D.rt, fun σ1 H1 => D.bk (σ1.set i none) H1, fun σ1 H1 => D.ct (σ1.set i none) H1⟩ (σ.set i (some (.ref z))) (upd H z (ExD cl d z))) ∧
    (b = false → Wout cl d σ H)
section
variable {X : Cx} {x n : Str} {cv : Value} {i : Nat} {body suite : List Stmt} {b₀ : Stmt} {np pos pos' : Pos} {tb : WX → TS} {ts : TS} {Wout : WX}
/-- try: body; except x as n: suite -/
theorem ps_try_keep (hs : X.stack = X.env :: X.outer) (hf : X.env.frame = some X.env.locals) (hx : X.ex = []) (hN : X.N.Nodup) (hi : X.N[i]? = some n)
    (hln : X.env.kindOf n = some .local) (hc : Names X x cv) (tk : Takes X Wout)
    (hb : ∀ (W1 : WX) (pq : List (Addr × Obj)) (xe : Value → Shared → Prop), Takes (X.tr pq xe) W1 →
      PassesOwn (model X.prog X.w) X.A X.env xe → PSs (X.tr pq xe) body (tb W1))
    (hsu : ∀ (z : Addr) (pq : List (Addr × Obj)), PSs (suiteK X z pq) (b₀ :: suite) ts) :
    PS X (.Try body [.ExceptHandler (some (.Name x np)) (some n) (b₀ :: suite) pos'] [] [] pos)
      (fun D σ H => tb (wKeep X.K cv i ts Wout D) D σ H) := by
  refine ⟨fun pins s σ H D I h => wpAny_Try_except ?_⟩
  have okX := I.ok
  have hframes : X.A.frames = some (X.env :: X.outer) := by rw [okX.frames, hs]
  have locn : Loc X.env.scope n := .inl hln
  have body1 := hb (wKeep X.K cv i ts Wout D) (X.pn ++ pins)
    (fun ev q1 => wpAny (model X.prog X.w) X.A (noteFrame ev X.env) (fun _ q2 =>
      wpAny (model X.prog X.w) X.A (setFlight ev none) (fun _ q3 =>
        wpAny (model X.prog X.w) X.A (handleBy ev X.env [.ExceptHandler (some (.Name x np)) (some n) (b₀ :: suite) pos'])
          (SP X pins D) X.xe q3) X.xe q2) X.xe q1) ?land PassesOwn.looking
  case land =>
    intro ev q0 air
    obtain ⟨z, G, sB, pq, σ1, H1, cl, d, rfl, Jt, below, ups, sky, nz, hos, gens, b, hexm, yes, no⟩ := air
    have Jx : Inv X pins σ1 H1 sB := Jt.ofTry okX
    have skyX : Sky G (X.env :: X.outer) z (Zc cl d) X.env.locals q0.heap := by rw [← hs]; exact sky
    show wpAny (model X.prog X.w) X.A (noteFrame (.ref z) X.env) _ _ _
    refine Sky.land Zc.steady hframes hf skyX fun hp1 fly1 upA => ?_
    have I1 : Inv X pins σ1 H1 { q0 with heap := hp1 } := Jx.landed below fly1.1 (ups.trans upA) hos gens
    obtain ⟨o1, w1, ge1, zc1, dat1⟩ := fly1.there
    have off : z ∉ frs (X.env :: X.outer) := fun hm => by
      obtain ⟨_, o', e', hnf⟩ := fly1.2.2.1.mem hm
      rw [ge1] at e'
      cases e'
      exact hnf _ dat1
    have offL : z ≠ X.env.locals := fun q => off (List.mem_filterMap.mpr ⟨X.env, List.mem_cons_self, by rw [hf, q]⟩)
    have offF : z ∉ X.fs := fun hm => by
      obtain ⟨e, he, q⟩ := List.mem_filterMap.mp hm
      exact off (List.mem_filterMap.mpr ⟨e, List.mem_cons_of_mem _ he, q⟩)
    have suite1 := I1.suite ge1 dat1 nz offL offF
    have newB : sB.heap.get? z = none := by
      cases q : sB.heap.get? z with
      | none => rfl
      | some o =>
        have := below z o q (by rw [hs]; exact off)
        rw [fly1.2.1] at this
        cases this
    have new0 : X.s_0.heap.get? z = none := by
      cases q : X.s_0.heap.get? z with
      | none => rfl
      | some o =>
        obtain ⟨o', e⟩ := Jx.base.there z o q (by rw [hx]; exact fun y => nomatch y)
        rw [newB] at e
        cases e
    refine wpAny_handleBy_cons (codeAny_handlers_test ?_) (by intro q; cases q)
    have looks1 : PySem.W.Looks (model X.prog X.w) hp1 (typeOf (.ref z)) cl := fun A Q E r k q => wpAny_typeOf_ref (k _ _ ge1) (by rw [zc1.1]; exact q)
    have hit := PySem.W.exm_one (M := model X.prog X.w) (I1.kIn) looks1 hexm
    have named : ∀ {Q : Value → Shared → Prop} {E : Value → Shared → Prop}, Q cv { q0 with heap := hp1 } →
        wpAny (model X.prog X.w) (X.A.mark (some (.ref z))) (eval (.Name x np) X.env) Q E { q0 with heap := hp1 } := fun {Q E} q => by
      obtain ⟨hg, hdbg, hm | ⟨hm, hv, hnn⟩⟩ := hc
      · exact ld_glob (X := X.suite z ((z, o1) :: (X.pn ++ pins))) suite1 hg hm q hdbg
      · exact ld_blt (X := X.suite z ((z, o1) :: (X.pn ++ pins))) suite1 hg hm hv q hnn hdbg
    refine named (hit.here ?_)
    cases b with
    | true =>
      refine codeAny_handlers_suite_as (HandSPX.lands_againZ fly1 fun hp2 fly2 upB => ?_)
      have I2 : Inv X pins σ1 H1 { q0 with heap := hp2 } := Jx.landed below fly2.1 ((ups.trans upA).trans upB) hos gens
      obtain ⟨o2, w2, ge2, zc2, dat2⟩ := fly2.there
      have I3 : Inv X pins σ1 (upd H1 z (ExD cl d z)) { q0 with heap := hp2 } := inv_adopt I2 new0 nz (Ne.symm offL)
        (fun y c e q => by
          obtain ⟨v, oc, hoc, hd⟩ := I2.cell y c e
          rw [q, ge2] at hoc
          cases hoc
          rw [dat2] at hd
          cases hd)
        (fun p hp q => by
          have := (Jx.pin p hp).1
          rw [q, newB] at this
          cases this)
        (exD_ok ge2 zc2 dat2)
      refine store_ok (X := suiteK X z (X.pn ++ pins)) (v := .ref z) (inv_suiteK I3) hN hi locn rfl (fun r5 S5 => ?_) (.inr hln)
      refine wpAny_mono ((hsu z (X.pn ++ pins)).run [] r5 _ _ _ S5 (yes rfl z nz)) (fun f r6 hsp => ?_) (fun _ _ y => False.elim y)
      have gone : ∀ {σ6 : L2.St} {H6 : Hp} {Q : Shared → Prop}, Inv (suiteK X z (X.pn ++ pins)) [] σ6 H6 r6 → (∀ r7, Inv X pins (σ6.set i none) H6 r7 → Q r7) →
          wpAny (model X.prog X.w) X.A (do bindName X.env n .none; unbindBehindTheSuite X.env n pos') (fun _ r7 => Q r7) X.xe r6 :=
        fun {σ6 H6 Q} S6 hq => gone_ok (inv_offK S6 okX) hN hi hln hq
      cases f with
      | next =>
        obtain ⟨σ6, H6, S6, w6⟩ := hsp
        exact gone S6 fun r7 J7 => ⟨_, _, J7, w6⟩
      | brk =>
        obtain ⟨σ6, H6, S6, w6⟩ := hsp
        exact gone S6 fun r7 J7 => ⟨_, _, J7, w6⟩
      | cont =>
        obtain ⟨σ6, H6, S6, w6⟩ := hsp
        exact gone S6 fun r7 J7 => ⟨_, _, J7, w6⟩
      | ret u =>
        obtain ⟨v6, σ6, H6, S6, r6', w6⟩ := hsp
        exact gone S6 fun r7 J7 => ⟨_, _, _, J7, r6', w6⟩
    | false =>
      show wpAny _ X.A (handleBy (.ref z) X.env []) _ _ _
      refine wpAny_handleBy_nil ?_
      obtain ⟨k1, k2, k3, oe, vs, T, oT, us, he, hz, hd, h1, hr⟩ := id fly1
      unfold PySem.passOn
      refine wpAny_bind (wpAny_field he hd h1 ?_)
      rw [if_neg (show ¬ ((Value.ref T == Value.none) = true) from by simp)]
      have fin : wpAny (model X.prog X.w) X.A (setFlight (.ref z) X.env.frame)
          (fun _ r4 => wpAny (model X.prog X.w) X.A (throw (.ref z) : Sem Flow) (SP X pins D) X.xe r4) X.xe { q0 with heap := hp1 } := by
        rw [hf]
        refine HandSPX.setFlight_upZ fly1 fun hp4 held upC => wpAny_throw (tk _ _ ?_)
        exact ⟨z, G, sB, pins, σ1, H1, cl, d, rfl, Jx, below, (ups.trans upA).trans upC, .inr (.inr (by rw [hs]; exact held)), nz, hos, gens, no rfl⟩
      first
        | exact wpAny_bind (wpAny_pure (wpAny_bind fin))
        | exact wpAny_bind fin
  refine wpAny_mono (body1.run [] s σ H D (I.toTry _) h) (fun f r1 hsp => ?_) (fun ev r1 he => he)
  cases f with
  | next =>
    obtain ⟨σ1, H1, J1, q⟩ := hsp
    exact wpAny_execs_nil ⟨σ1, H1, J1.ofTry okX, q⟩
  | brk =>
    obtain ⟨σ1, H1, J1, q⟩ := hsp
    exact ⟨σ1, H1, J1.ofTry okX, q⟩
  | cont =>
    obtain ⟨σ1, H1, J1, q⟩ := hsp
    exact ⟨σ1, H1, J1.ofTry okX, q⟩
  | ret u =>
    obtain ⟨v, σ1, H1, J1, r, q⟩ := hsp
    exact ⟨v, σ1, H1, J1.ofTry okX, r, q⟩
end
end DL

namespace DL
open PySem PySem.Spec L2
section
variable {X : Cx} {W : WX} {KE : XD} {e : Expr} {sts body suite : List Stmt} {n : En} {μ : M} {k : DK} {P : Ed} {pos pos' p p2 np : Pos} {x m y : Str} {K : Kf} {kl j i : Nat} {b₀ : Stmt}
/-- an own exception class, below ValueError, without its own __init__ -/
structure Xc (K : Kf) (mg : Str → Option Value) (x : Str) (C : Addr) : Prop where
  q : PySem.W.excIn K C [.type "ValueError", .type "Exception", .type "BaseException", .type "object"] "ValueError.__new__" = true
  g : mg x = some (.ref C)
  k : PySem.W.keepIn K (.ref C) = true
  r1 : PySem.W.subIn K (.ref C) (.type "BaseException") = some true
  r2 : PySem.W.typeIn K (.ref C) = some (.type "type")
theorem js_raise {C : Addr} (c : Cok kl X W) (F : Xc X.K X.mg x C) (h : KE (.ref C) [] n μ) (hg : Gl X x := by rfl) (hdb : (x == ("__debug__" : Str)) = false := by decide) : JS X W KE (.Raise (some (.Call (.Name x p) [.Constant (.str m) j p2] [] pos)) none pos') n μ P :=
  js_of (ps_raise c.calm c.tk (pmk_own PySem.F.excBase_ValueError F.q F.g F.k (raises_own F.r1 F.r2) hg hdb)) fun σ H D ev rp t q =>
    t (.ref C) [] none σ n H μ h ev (Step.refl _ _) rp rfl
theorem js_setN (i : Nat) (nd : X.N.Nodup) (hi : X.N[i]? = some x) (h : JE X W KE e n μ fun d μ' => P.nx (n.set i (some d)) μ') (hx : Loc X.env.scope x := by first | exact Or.inl rfl | exact Or.inr rfl)
    (hs : swapsWith e (some (.Name x pos')) pos.line X.env = pure false := by rfl) (hf : X.fn x = true ∨ X.env.scope.names.lookup x = some .local := by first | exact .inl rfl | exact .inr rfl) : JS X W KE (.Assign [.Name x pos'] e pos) n μ P :=
  js_of (ps_set nd hi hx peC hs hf) fun σ H D ev rp t q => by
    refine h σ H _ ev rp t fun v d H1 μ1 h1 s1 r1 d1 => ?_
    exact q.nx _ _ _ _ h1 ((ev.step s1).set d1 i) s1 r1
theorem exc_rep {H : Hp} {C z : Addr} {d : Option Addr} {fs : List (Str × Dv)} (rp : Rep K μ H) (nz : H z = none) (xr : XRep K μ H d fs) : DRep K μ (upd H z (ExD (.ref C) d z)) (.ref z) (.exc C fs) := by
  cases d with
  | none =>
    have e : fs = [] := xr
    subst e
    exact .exc0 upd_same (rp.free nz)
  | some dd =>
    obtain ⟨vs, e, nd, r⟩ := xr
    exact .exc1 upd_same (rp.free nz) (by rw [upd_ne (ne_of_none e nz)]; exact e) nd (r.step (Step.new nz))
/-- try: body, except x as y: suite; the caught exception is data -/
theorem js_try (i : Nat) {cv : Value} (c : Cok kl X W) (hi : X.N[i]? = some y) (hc : Names X x cv)
    (h : ∀ (pq : List (Addr × Obj)) (xe : Value → Shared → Prop) (W1 : WX), Cok kl (X.tr pq xe) W1 → PassesOwn (model X.prog X.w) X.A X.env xe →
      JB (X.tr pq xe) W1 (fun cls fs n1 μ1 => ∃ b, PySem.W.exmOne X.K cls cv = some b ∧ (b = true → ∃ C, cls = .ref C ∧ ∀ (z : Addr) (pq : List (Addr × Obj)),
        JB (suiteK X z pq) W0 KE0 (b₀ :: suite) (n1.set i (some (.exc C fs))) μ1 { nx := fun n2 μ2 => P.nx (n2.set i none) μ2, rt := P.rt, bk := fun n2 μ2 => P.bk (n2.set i none) μ2, ct := fun n2 μ2 => P.ct (n2.set i none) μ2 }) ∧ (b = false → KE cls fs n1 μ1)) body n μ P)
    (hs : X.stack = X.env :: X.outer := by rfl) (hf : X.env.frame = some X.env.locals := by rfl) (hx : X.ex = [] := by rfl) (hln : X.env.kindOf y = some .local := by rfl) :
    JS X W KE (.Try body [.ExceptHandler (some (.Name x np)) (some y) (b₀ :: suite) pos'] [] [] pos) n μ P :=
  js_of (ps_try_keep (tb := fun W1 D σ H => ∀ (pq : List (Addr × Obj)) (xe : Value → Shared → Prop), Takes (X.tr pq xe) W1 → PassesOwn (model X.prog X.w) X.A X.env xe → cB (X.tr pq xe) body D σ H)
      (ts := fun D σ H => ∀ (z : Addr) (pq : List (Addr × Obj)), cB (suiteK X z pq) (b₀ :: suite) D σ H) hs hf hx c.nd hi hln hc c.tk
      (fun W1 pq xe tk po => ⟨fun pins s σ H D I w => w pq xe tk po pins s I⟩) (fun z pq => ⟨fun pins s σ H D I w => w z pq pins s I⟩)) fun σ H D ev rp t q => by
    intro pq xe tk po
    refine h pq xe _ ⟨c.room, c.calm, tk, c.nd⟩ po σ H D ev rp (fun cls fs d σ1 e1 H1 μ1 hke ev1 st1 rp1 xr => ?_) q
    obtain ⟨b, hexm, yes, no⟩ := hke
    refine ⟨b, hexm, fun hb z nz => ?_, fun hb => t cls fs d σ1 e1 H1 μ1 (no hb) ev1 st1 rp1 xr⟩
    obtain ⟨C, rfl, hz⟩ := yes hb
    intro z2 pq2
    have sN : Step μ1 H1 μ1 (upd H1 z (ExD (.ref C) d z)) := Step.new nz
    have sA := st1.trans sN
    refine hz z2 pq2 _ _ _ ((ev1.step sN).set (exc_rep rp1 nz xr) i) (rp1.new nz) Thr.no ⟨fun σ2 e2 H2 μ2 a b2 c2 d2 => ?_, q.rt.step sA, fun σ2 e2 H2 μ2 a b2 c2 d2 => ?_, fun σ2 e2 H2 μ2 a b2 c2 d2 => ?_⟩
    · exact q.nx _ _ _ _ a (b2.wipe [i]) (sA.trans c2) d2
    · exact q.bk _ _ _ _ a (b2.wipe [i]) (sA.trans c2) d2
    · exact q.ct _ _ _ _ a (b2.wipe [i]) (sA.trans c2) d2
/-! isinstance of an exception -/
def rIsX (K : Kf) : List V → Hp → VK → Prop := fun xs H Q => ∃ (z D : Addr) (c : V) (cv : Value) (b : Bool), xs = [.ref z, c] ∧ (H z = some (ExD (.ref D) none z) ∨ ∃ dd vs, H z = some (ExD (.ref D) (some dd) z) ∧ H dd = some (.xd vs)) ∧ ClsV c cv ∧ ExcC K D ∧ PySem.W.kitOne K (.ref D) cv = some b ∧ Q (.bl b) H
theorem call_isX : CallR X (.builtin "isinstance") (rIsX X.K) := by
  intro pins s σ H xs us Q I r h
  obtain ⟨z, D, c, cv, b, rfl, hz, hc, E, e, q⟩ := h
  cases r with
  | cons rx rr =>
    cases rr with
    | cons rt rr =>
      cases rr
      cases rx
      have ec := hc.eq rt
      subst ec
      rcases hz with hz | ⟨dd, vs, hz, hd⟩
      · obtain ⟨⟨oe, ws, ge, zc, dat⟩, _, _⟩ := I.hok z _ hz
        have J : PySem.W.InstAt s.heap z oe D none := by
          obtain ⟨oc, od, oda, osl⟩ := oe
          obtain ⟨h1, h2⟩ := zc
          dsimp only at h1 h2 dat
          subst h1 h2 dat
          exact ⟨ge, rfl, rfl, trivial⟩
        exact PySem.W.kia_one (PySem.W.handS_kitx_exc E.hg E.hk E.hs E.hd E.ha E.hn E.ht E.hm) I.kIn J e (fun z => nomatch z) fun tk => ⟨.bl b, H, I.kept (t' := tk) fun _ _ z => z, rfl, q⟩
      · obtain ⟨⟨oe, ws, ge, zc, dat⟩, _, _⟩ := I.hok z _ hz
        obtain ⟨mA, ⟨o1, es, ep, hns, _⟩, _⟩ := (show ∃ mA, s.heap.Ns1 dd mA ∧ _ from I.hok dd _ hd)
        have J : PySem.W.InstAt s.heap z oe D (some o1) := by
          obtain ⟨oc, od, oda, osl⟩ := oe
          obtain ⟨h1, h2⟩ := zc
          dsimp only at h1 h2 dat
          subst h1 h2 dat
          exact ⟨ge, rfl, rfl, hns⟩
        obtain ⟨cd, hcd, _⟩ := PySem.W.any_some E.hd
        exact PySem.W.kia_one (PySem.W.kitx_exc (by rw [hcd]; rfl) E.hg E.hk E.hs E.ha E.hn E.ht E.hm) I.kIn J e (fun z => nomatch z) fun tk => ⟨.bl b, H, I.kept (t' := tk) fun _ _ z => z, rfl, q⟩
theorem d_isX {C : Addr} {fs : List (Str × Dv)} {cd : Dv} {u : Value} {b : Bool} (E : ExcC K C) (hc : ClD cd u) (hb : PySem.W.kitOne K (.ref C) u = some b) (h : k (.bl b) μ) : DCl K (rIsX K) [.exc C fs, cd] μ k := fun us H Q r d q => by
  cases d with
  | cons d0 d1 =>
    cases d1 with
    | cons d1 d2 =>
      cases d2
      cases d0 with
      | exc0 hz nz => exact ⟨_, C, _, u, b, rfl, .inl hz, hc.rep d1, E, hb, tl_pure q h r (.bl _)⟩
      | exc1 hz nz hd nd rr => exact ⟨_, C, _, u, b, rfl, .inr ⟨_, _, hz, hd⟩, hc.rep d1, E, hb, tl_pure q h r (.bl _)⟩
end
end DL

namespace TS
open PySem PySem.Spec L2 DL
structure Ad where
  CGE : Addr
  CNB : Addr
  CB : Addr
  CJ : Addr
  CW : Addr
structure Txt (K : Kf) (mg : Str → Option Value) (A : Ad) : Prop where
  cl_Jar : Cls K A.CJ
  na_Jar_size : NoAttr K A.CJ "size"
  na_Jar_flow : NoAttr K A.CJ "flow"
  cl_Window : Cls K A.CW
  na_Window_most : NoAttr K A.CW "most"
  na_Window_span : NoAttr K A.CW "span"
  ic_Jar : PySem.W.findIn K (.ref A.CJ) "__class__" = some (some (.builtin "object.__class__"))
  im_Jar : PySem.W.mroIn K A.CJ (.type "object") = some true
  ic_Window : PySem.W.findIn K (.ref A.CW) "__class__" = some (some (.builtin "object.__class__"))
  im_Window : PySem.W.mroIn K A.CW (.type "object") = some true
  isn : PySem.W.specialIn K (.builtin "object.__class__") "__get__" = some (some (.builtin "getset_descriptor.__get__"))
  ist : PySem.W.takesIn K (.builtin "object.__class__") = some true
  x_GateError : Xc K mg "GateError" A.CGE
  xc_GateError : ExcC K A.CGE
  x_NoBound : Xc K mg "NoBound" A.CNB
  xc_NoBound : ExcC K A.CNB
  ex_NoBound_GateError : PySem.W.exmOne K (.ref A.CNB) (.ref A.CGE) = some true
  kit_Jar_Bound : PySem.W.kitOne K (.ref A.CJ) (.ref A.CB) = some true
  kit_Window_Bound : PySem.W.kitOne K (.ref A.CW) (.ref A.CB) = some true
  kit_Jar_Jar : PySem.W.kitOne K (.ref A.CJ) (.ref A.CJ) = some true
  kit_Window_Jar : PySem.W.kitOne K (.ref A.CW) (.ref A.CJ) = some false
  kit_NoBound_NoBound : PySem.W.kitOne K (.ref A.CNB) (.ref A.CNB) = some true
  m_len : mg "len" = none
  m_isinstance : mg "isinstance" = none
  m_int : mg "int" = none
  m_bool : mg "bool" = none
  m_range : mg "range" = none
  m_max : mg "max" = none
  g_MOST_ROOM : Gv mg "MOST_ROOM" (.int 1000000000000000)
  g_MOST_FLOW : Gv mg "MOST_FLOW" (.int 1000000000)
  g_MOST_SPAN : Gv mg "MOST_SPAN" (.int 1000000000000)
  g_NoBound : Gv mg "NoBound" (.obj A.CNB)
  g_Bound : Gv mg "Bound" (.obj A.CB)
  g_Jar : Gv mg "Jar" (.obj A.CJ)
/-! ### bounds, rows, cells -/
theorem lookup_putD (f g : Str) (v : Dv) : ∀ fs : List (Str × Dv), (putD f v fs).lookup g = if g = f then some v else fs.lookup g
  | [] => by
    show ([(f, v)] : List (Str × Dv)).lookup g = _
    rw [List.lookup_cons]
    by_cases e : g = f
    · subst e; simp
    · have : (g == f) = false := by simpa using e
      rw [this, if_neg e]
  | (k, x) :: r => by
    show (if k = f then (k, v) :: r else (k, x) :: putD f v r).lookup g = _
    by_cases e : k = f
    · subst e
      rw [if_pos rfl, List.lookup_cons, List.lookup_cons]
      by_cases e2 : g = k
      · subst e2; simp
      · have : (g == k) = false := by simpa using e2
        rw [this, if_neg e2]
    · rw [if_neg e, List.lookup_cons, List.lookup_cons, lookup_putD f g v r]
      by_cases e2 : g = k
      · subst e2; simp [e]
      · have : (g == k) = false := by simpa using e2
        rw [this]
theorem length_putD (f : Str) (v : Dv) : ∀ fs : List (Str × Dv), (putD f v fs).length ≤ fs.length + 1
  | [] => Nat.le_refl _
  | (k, x) :: r => by
    show (if k = f then (k, v) :: r else (k, x) :: putD f v r).length ≤ _
    have := length_putD f v r
    split
    · simp
    · simp; omega
inductive Bd where
  | jar (s f : Int) | win (m s : Int)
  deriving DecidableEq
def Bd.ok : Bd → Prop
  | .jar s f => (1 ≤ s ∧ s ≤ 1000000000000000) ∧ 0 ≤ f ∧ f ≤ 1000000000
  | .win m s => (1 ≤ m ∧ m ≤ 1000000000000000) ∧ 1 ≤ s ∧ s ≤ 1000000000000
def Bd.tv : Bd → Dv
  | .jar s f => .tup [.str "jar", .int s, .int f]
  | .win m s => .tup [.str "window", .int m, .int s]
def Bd.room : Bd → Int → Int → Option Int
  | .jar s f, a, b => some (s + f * (b - a))
  | .win m s, a, b => if b - a < s then some m else none
def opI : Option Int → Dv
  | none => .non
  | some i => .int i
theorem opI_non (o : Option Int) : isNonD (opI o) = o.isNone := by cases o <;> rfl
abbrev encV : Enc (Int × Int) := Enc.pair Enc.int Enc.int
def m_c1 (ns : List Int) (k : Int) : Int := if ns = [] then 7919 * k + 11 else 7919 * k + 11 + ns.getD (k % ns.length).toNat 0 * 48271 + 96810 * k + k / ns.length * 7919
def m_tail (c1 k : Int) : Int := (c1 % 2147483647 * (c1 % 2147483647) % 2147483629 * (c1 % 2147483647 * (c1 % 2147483647) % 2147483629) + 69621 * (c1 % 2147483647 * (c1 % 2147483647) % 2147483629) + k) % 2147483587
def m_law_cell (ns : List Int) (k : Int) : Int := m_tail (m_c1 ns k) k
theorem cell_ne {ns : List Int} (h : ¬ ns = []) (k : Int) : m_law_cell ns k = m_tail (7919 * k + 11 + ns.getD (k % ns.length).toNat 0 * 48271 + 96810 * k + k / ns.length * 7919) k := congrArg (m_tail · k) (if_neg h)
theorem cell_nil {ns : List Int} (h : ns = []) (k : Int) : m_law_cell ns k = m_tail (7919 * k + 11) k := congrArg (m_tail · k) (if_pos h)
theorem cell_lo (ns : List Int) (k : Int) : 0 ≤ m_law_cell ns k := Int.emod_nonneg _ (by decide)
theorem cell_hi (ns : List Int) (k : Int) : m_law_cell ns k < 2147483587 := Int.emod_lt_of_pos _ (by decide)
section
def S__law_cell (A : Ad) : DSp := fun ds μ kd _ => ∃ (ns : List Int) (k : Int), ds = [.fro (ns.map Dv.int), .int k] ∧ ns.length ≤ 63 ∧ kd (.int (m_law_cell ns k)) μ
end
/-! ### fields -/
theorem lookup_hit {f : Str} {x : Dv} {r : List (Str × Dv)} : (((f, x) :: r).lookup f) = some x := by rw [List.lookup_cons]; simp
theorem lookup_miss {f g : Str} {x : Dv} {r : List (Str × Dv)} (h : ¬ g = f) : (((f, x) :: r).lookup g) = r.lookup g := by
  rw [List.lookup_cons]
  have : (g == f) = false := by simpa using h
  rw [this]
theorem putD_nil {f : Str} {v : Dv} : putD f v [] = [(f, v)] := rfl
theorem putD_hit {f : Str} {v x : Dv} {r : List (Str × Dv)} : putD f v ((f, x) :: r) = (f, v) :: r := if_pos rfl
theorem putD_miss {f g : Str} {v x : Dv} {r : List (Str × Dv)} (h : ¬ g = f) : putD f v ((g, x) :: r) = (g, x) :: putD f v r := if_neg h
section
variable {K : Kf} {μ : M} {k : DK}
theorem d_eqOp (o : Option Int) {i : Int} (h : k (.bl (decide (o = some i))) μ) : DOp K (rEqA K) (opI o) (.int i) μ k := by
  cases o with
  | none => exact d_eqNI h
  | some j => exact d_eqI (by rw [show decide (some j = some i) = decide (j = i) by simp] at h; exact h)
theorem d_neOp (o : Option Int) {i : Int} (h : k (.bl (!decide (o = some i))) μ) : DOp K (rNeA K) (opI o) (.int i) μ k := by
  cases o with
  | none => exact d_neNI h
  | some j => exact d_neI (by rw [show decide (some j = some i) = decide (j = i) by simp] at h; exact h)
end
theorem putD_lt1 {f : Str} {v : Dv} : (putD f v []).length < 1000 := Nat.lt_of_le_of_lt (length_putD _ _ _) (by decide)
theorem putD_lt2 {f g : Str} {v w : Dv} : (putD f v (putD g w [])).length < 1000 := Nat.lt_of_le_of_lt (Nat.le_trans (length_putD _ _ _) (Nat.succ_le_succ (length_putD _ _ _))) (by decide)
theorem putD_lt3 {f g h : Str} {v w x : Dv} : (putD f v (putD g w (putD h x []))).length < 1000 := Nat.lt_of_le_of_lt (Nat.le_trans (length_putD _ _ _) (Nat.succ_le_succ (Nat.le_trans (length_putD _ _ _) (Nat.succ_le_succ (length_putD _ _ _))))) (by decide)
theorem putD_ltF {f : Str} {v : Dv} {fs : List (Str × Dv)} {m : Nat} (h : fs.length = m) (hm : m < 900) : (putD f v fs).length < 1000 := Nat.lt_of_le_of_lt (length_putD _ _ _) (by rw [h]; omega)
theorem len_ltE {fs : List (Str × Dv)} {m : Nat} (h : fs.length = m) (hm : m < 900) : fs.length < 1000 := by rw [h]; omega
theorem fm_if {α : Type} (P : α → Prop) [DecidablePred P] (f : α → Dv) (xs : List α) : xs.filterMap (fun p => if P p then some (f p) else none) = (xs.filter fun p => decide (P p)).map f := by
  induction xs with
  | nil => rfl
  | cons x r ih =>
    rw [List.filterMap_cons, List.filter_cons]
    by_cases h : P x
    · rw [if_pos h, if_pos (decide_eq_true h), List.map_cons, ← ih]
    · rw [if_neg h, if_neg (by simpa using h), ← ih]
theorem fm_some {α β : Type} (f : α → β) (xs : List α) : xs.filterMap (fun p => some (f p)) = xs.map f := by
  induction xs with
  | nil => rfl
  | cons x r ih => rw [List.filterMap_cons, List.map_cons, ← ih]
theorem fm_int {α : Type} (f : α → Int) (xs : List α) : xs.filterMap (fun p => some (Dv.int (f p))) = (xs.map f).map Dv.int := by
  rw [fm_some (fun p => Dv.int (f p)), List.map_map]; rfl
theorem map_item {α : Type} {f : α → Dv} {xs : List α} {j : Nat} {x : Dv} (h : (xs.map f)[j]? = some x) : ∃ p, xs[j]? = some p ∧ x = f p := by
  rw [List.getElem?_map] at h
  cases e : xs[j]? with
  | none => rw [e] at h; cases h
  | some p => rw [e] at h; cases h; exact ⟨p, rfl, rfl⟩
theorem drop_of_get {α : Type} {xs : List α} {j : Nat} {p : α} (h : xs[j]? = some p) : xs.drop j = p :: xs.drop (j + 1) := by
  obtain ⟨hj, e⟩ := List.getElem?_eq_some_iff.mp h
  rw [List.drop_eq_getElem_cons hj, e]
theorem and_dec {p q : Prop} [Decidable p] [Decidable q] (h : (decide p && decide q) = true) : p ∧ q := by
  rw [Bool.and_eq_true] at h
  exact ⟨of_decide_eq_true h.1, of_decide_eq_true h.2⟩
theorem nand_dec {p q : Prop} [Decidable p] [Decidable q] (h : (decide p && decide q) = false) : ¬ (p ∧ q) := fun ⟨a, b⟩ => by
  rw [decide_eq_true a, decide_eq_true b] at h
  cases h
theorem or_dec {p q : Prop} [Decidable p] [Decidable q] (h : (decide p || decide q) = true) : p ∨ q := by
  rw [Bool.or_eq_true] at h
  exact h.imp of_decide_eq_true of_decide_eq_true
theorem nor_dec {p q : Prop} [Decidable p] [Decidable q] (h : (decide p || decide q) = false) : ¬ p ∧ ¬ q := by
  rw [Bool.or_eq_false_iff] at h
  exact ⟨of_decide_eq_false h.1, of_decide_eq_false h.2⟩
theorem and_ndec {p q : Prop} [Decidable p] [Decidable q] (h : (decide p && !decide q) = true) : p ∧ ¬ q := by
  rw [Bool.and_eq_true] at h
  refine ⟨of_decide_eq_true h.1, fun z => ?_⟩
  have := h.2
  rw [decide_eq_true z] at this
  cases this
theorem nand_ndec {p q : Prop} [Decidable p] [Decidable q] (h : (decide p && !decide q) = false) : ¬ (p ∧ ¬ q) := fun ⟨a, b⟩ => by
  rw [decide_eq_true a, decide_eq_false b] at h
  cases h
section
variable {K : Kf} {μ : M} {k : DK}
theorem d_ixAny {xs : List Dv} {i : Int} (h0 : 0 ≤ i) (h1 : i < (xs.length : Int)) (h : ∀ d ∈ xs, k d μ) : DOp K (rIx K) (.lst xs) (.int i) μ k :=
  d_ixL (.lst _) (at_getD .non h0 h1) (h _ (by
    have hl : i.toNat < xs.length := by omega
    rw [List.getD_eq_getElem?_getD, List.getElem?_eq_getElem hl]
    exact List.getElem_mem _))
end

/-! ### jars and windows -/
def jarF (s f : Int) : List (Str × Dv) := putD "flow" (.int f) (putD "size" (.int s) [])
def winF (m s : Int) : List (Str × Dv) := putD "span" (.int s) (putD "most" (.int m) [])
theorem sf_ : ¬ (("size" : Str) = "flow") := by decide +kernel
theorem ms_ : ¬ (("most" : Str) = "span") := by decide +kernel
theorem jarF_size (s f : Int) : (jarF s f).lookup ("size" : Str) = some (.int s) := by unfold jarF; rw [lookup_putD, if_neg sf_, lookup_putD, if_pos rfl]
theorem jarF_flow (s f : Int) : (jarF s f).lookup ("flow" : Str) = some (.int f) := by unfold jarF; rw [lookup_putD, if_pos rfl]
theorem winF_most (s f : Int) : (winF s f).lookup ("most" : Str) = some (.int s) := by unfold winF; rw [lookup_putD, if_neg ms_, lookup_putD, if_pos rfl]
theorem winF_span (s f : Int) : (winF s f).lookup ("span" : Str) = some (.int f) := by unfold winF; rw [lookup_putD, if_pos rfl]
theorem jarF_no (s f : Int) {g : Str} (h1 : ¬ g = "flow") (h2 : ¬ g = "size") : (jarF s f).lookup g = none := by unfold jarF; rw [lookup_putD, if_neg h1, lookup_putD, if_neg h2]; rfl
theorem winF_no (s f : Int) {g : Str} (h1 : ¬ g = "span") (h2 : ¬ g = "most") : (winF s f).lookup g = none := by unfold winF; rw [lookup_putD, if_neg h1, lookup_putD, if_neg h2]; rfl
def Bd.pv (A : Ad) : Bd → Dv
  | .jar s f => .ins A.CJ (jarF s f)
  | .win m s => .ins A.CW (winF m s)
section
def S_Jar_room (A : Ad) : DSp := fun ds μ kd _ => ∃ (s f a b : Int), ds = [(Bd.jar s f).pv A, .int a, .int b] ∧ (Bd.jar s f).ok ∧ kd (opI ((Bd.jar s f).room a b)) μ
def S_Window_room (A : Ad) : DSp := fun ds μ kd _ => ∃ (s f a b : Int), ds = [(Bd.win s f).pv A, .int a, .int b] ∧ kd (opI ((Bd.win s f).room a b)) μ
end
section
variable {X : Cx} {W : WX} {KE : XD} {e o : Expr} {es : List Expr} {n : En} {μ : M} {k : DK} {pos apos : Pos} {kl : Nat} {A : Ad}
/-- bound.room(..) of any bound -/
theorem je_room {pl : Sem Bool} {j : Nat} (c : Cok kl X W) (MJ : DMet X.prog X.w X.K X.mg X.base j A.CJ "room" (S_Jar_room A) []) (MW : DMet X.prog X.w X.K X.mg X.base j A.CW "room" (S_Window_room A) []) (hj : j ≤ kl) (b : Bd) (ok : b.ok)
    (h : JE X W KE o n μ fun d μ1 => d = b.pv A ∧ JA X W KE (e :: es) n μ1 fun ds μ2 => ∃ x y : Int, ds = [.int x, .int y] ∧ k (opI (b.room x y)) μ2)
    (hst : starEach (e :: es) X.env = (false, eval e X.env) :: starEach es X.env := by rfl) (hpl : (backTo pos (starEach es X.env)).any (·.1) = false := by rfl)
    (ht : eval (.Call (.Attribute o "room" apos) (e :: es) [] pos) X.env = (do
      let ov ← eval o X.env
      standAt apos.atName
      let (f, first) ← holding [ov] (getMethod ov "room" pl)
      callWith pos f first (backTo pos (starEach (e :: es) X.env)) (backToKw pos (keywordEach [] X.env))) := by rfl) : JE X W KE (.Call (.Attribute o "room" apos) (e :: es) [] pos) n μ k := by
  refine je_meth c (h.mono fun d μ1 ⟨e1, h1⟩ => ?_) hst hpl ht
  subst e1
  cases b with
  | jar s f => exact ⟨_, _, _, _, _, .ins _ _, jarF_no _ _ (by decide +kernel) (by decide +kernel), MJ, hj, fun σ H Q a b c d => h1 σ H Q a b c fun vs ds H' μ' ⟨x, y, e2, hk⟩ => d vs ds H' μ' (by subst e2; exact ⟨s, f, x, y, rfl, ok, hk⟩)⟩
  | win s f => exact ⟨_, _, _, _, _, .ins _ _, winF_no _ _ (by decide +kernel) (by decide +kernel), MW, hj, fun σ H Q a b c d => h1 σ H Q a b c fun vs ds H' μ' ⟨x, y, e2, hk⟩ => d vs ds H' μ' (by subst e2; exact ⟨s, f, x, y, rfl, hk⟩)⟩
end

/-! ### visits -/
abbrev Vs := List (Int × Int)
def vAt (vs : Vs) (i : Nat) : Int × Int := vs.getD i (0, 0)
theorem rng_item {lo : Int} {n j : Nat} {x : Dv} (h : (Src.rng lo n).items[j]? = some x) : x = .int (lo + (j : Int)) ∧ j < n := by
  have h' : ((List.range n).map fun (i : Nat) => Dv.int (lo + (i : Int)))[j]? = some x := h
  rw [List.getElem?_map] at h'
  by_cases z : j < n
  · rw [List.getElem?_range z] at h'
    cases h'
    exact ⟨rfl, z⟩
  · rw [List.getElem?_eq_none (by simpa using z)] at h'; cases h'
theorem rng_len {lo : Int} {n : Nat} : (Src.rng lo n).items.length = n := by simp [Src.items]
theorem rng_item0 {n j : Nat} {x : Dv} (h : (Src.rng 0 n).items[j]? = some x) : x = .int (j : Int) ∧ j < n := by
  have := rng_item h
  rw [Int.zero_add] at this
  exact this
section
variable {K : Kf} {μ : M} {k : DK}
theorem d_ixV (j : Nat) {vs : Vs} {i : Int} (e : i = (j : Int)) (h : j < vs.length) (hk : k (.tup [.int (vAt vs j).1, .int (vAt vs j).2]) μ) : DOp K (rIx K) (.lst (vs.map encV.dv)) (.int i) μ k := by
  refine d_ixMap encV.dv vs (0, 0) (.lst _) (by omega) (by omega) ?_
  rw [show i.toNat = j by omega]
  exact hk
theorem d_ixVx {x : Dv} {vs : Vs} (l : SqD μ x (vs.map encV.dv)) (j : Nat) {i : Int} (e : i = (j : Int)) (h : j < vs.length) (hk : k (.tup [.int (vAt vs j).1, .int (vAt vs j).2]) μ) : DOp K (rIx K) x (.int i) μ k := by
  refine d_ixMap encV.dv vs (0, 0) l (by omega) (by omega) ?_
  rw [show i.toNat = j by omega]
  exact hk
end

/-! ### numbers and odd things -/
inductive Thing (μ : M) : Dv → Option Int → Prop where
  | int (i : Int) : Thing μ (.int i) (some i)
  | non : Thing μ .non none
  | bl (b : Bool) : Thing μ (.bl b) none
  | str (s : Str) : Thing μ (.str s) none
  | tup (xs : List Dv) : Thing μ (.tup xs) none
  | lst (xs : List Dv) : Thing μ (.lst xs) none
  | dic {a : Addr} {kvs : List (Key × Dv)} (h : μ a = some (.dic kvs)) : Thing μ (.obj a) none
theorem ext_new {μ : M} {a : Addr} {o : MO} (h : μ a = none) : ExtM μ (updM μ a o) := fun b u e => by rw [updM_ne (ne_ofM e h)]; exact e
theorem Thing.ext {μ μ' : M} {d : Dv} {v : Option Int} (h : Thing μ d v) (e : ExtM μ μ') : Thing μ' d v := by
  cases h with
  | int => exact .int _
  | non => exact .non
  | bl => exact .bl _
  | str => exact .str _
  | tup => exact .tup _
  | lst => exact .lst _
  | dic h => exact .dic (e _ _ h)
def goodB (v : Option Int) (l m : Int) : Bool := match v with
  | none => false
  | some i => decide (l ≤ i) && decide (i ≤ m)
theorem goodB_some {v : Option Int} {l m : Int} (h : goodB v l m = true) : ∃ i, v = some i ∧ l ≤ i ∧ i ≤ m := by
  cases v with
  | none => cases h
  | some i => exact ⟨i, rfl, and_dec h⟩
/-- the tests isinstance(x, int), isinstance(x, bool) -/
def isIntD : Dv → Bool
  | .int _ => true
  | .bl _ => true
  | _ => false
def isBoolD : Dv → Bool
  | .bl _ => true
  | _ => false
section
variable {K : Kf} {μ : M} {k : DK} {X : Cx}
theorem d_isInt {d : Dv} {v : Option Int} (t : Thing μ d v) (h : k (.bl (isIntD d)) μ) : DCl K (rIsiA K) [d, .ty "int"] μ k := by
  cases t with
  | int i => exact d_isi (.int _) (.ty _) (kit_ty (r := true) (by decide +kernel)) h
  | non => exact d_isi .non (.ty _) (kit_ty (r := false) (by decide +kernel)) h
  | bl => exact d_isi (.bl _) (.ty _) (kit_ty (r := true) (by decide +kernel)) h
  | str => exact d_isi (.str _) (.ty _) (kit_ty (r := false) (by decide +kernel)) h
  | tup => exact d_isi (.tup _) (.ty _) (kit_ty (r := false) (by decide +kernel)) h
  | lst => exact d_isi (.lst _) (.ty _) (kit_ty (r := false) (by decide +kernel)) h
  | dic hd => exact d_isi (.dicM hd) (.ty _) (kit_ty (r := false) (by decide +kernel)) h
theorem d_isBool {d : Dv} {v : Option Int} (t : Thing μ d v) (h : k (.bl (isBoolD d)) μ) : DCl K (rIsiA K) [d, .ty "bool"] μ k := by
  cases t with
  | int i => exact d_isi (.int _) (.ty _) (kit_ty (r := false) (by decide +kernel)) h
  | non => exact d_isi .non (.ty _) (kit_ty (r := false) (by decide +kernel)) h
  | bl => exact d_isi (.bl _) (.ty _) (kit_ty (r := true) (by decide +kernel)) h
  | str => exact d_isi (.str _) (.ty _) (kit_ty (r := false) (by decide +kernel)) h
  | tup => exact d_isi (.tup _) (.ty _) (kit_ty (r := false) (by decide +kernel)) h
  | lst => exact d_isi (.lst _) (.ty _) (kit_ty (r := false) (by decide +kernel)) h
  | dic hd => exact d_isi (.dicM hd) (.ty _) (kit_ty (r := false) (by decide +kernel)) h
end
theorem Thing.odd {μ : M} {d : Dv} (t : Thing μ d none) : (!isIntD d || isBoolD d) = true := by cases t <;> rfl
theorem Thing.num {μ : M} {d : Dv} {i : Int} (t : Thing μ d (some i)) : d = .int i := by cases t; rfl
section
def S_need_number (A : Ad) : DSp := fun ds μ kd ke => ∃ (d : Dv) (v : Option Int) (l m : Int), ds = [d, .int l, .int m] ∧ Thing μ d v ∧ (goodB v l m = true → kd .non μ) ∧ (goodB v l m = false → ke (.ref A.CNB) [] μ)
def S_Jar_init (A : Ad) : DSp := fun ds μ kd ke => ∃ (a : Addr) (d e : Dv) (v w : Option Int), ds = [.obj a, d, e] ∧ μ a = some (.ins A.CJ []) ∧ Thing μ d v ∧ Thing μ e w ∧ ((goodB v 1 1000000000000000 && goodB w 0 1000000000) = true → kd .non (updM μ a (.ins A.CJ (putD "flow" e (putD "size" d []))))) ∧ ((goodB v 1 1000000000000000 && goodB w 0 1000000000) = false → ke (.ref A.CNB) [] μ)
def S_Window_init (A : Ad) : DSp := fun ds μ kd ke => ∃ (a : Addr) (d e : Dv) (v w : Option Int), ds = [.obj a, d, e] ∧ μ a = some (.ins A.CW []) ∧ Thing μ d v ∧ Thing μ e w ∧ ((goodB v 1 1000000000000000 && goodB w 1 1000000000000) = true → kd .non (updM μ a (.ins A.CW (putD "span" e (putD "most" d []))))) ∧ ((goodB v 1 1000000000000000 && goodB w 1 1000000000000) = false → ke (.ref A.CNB) [] μ)
end

/-! ### k02 -/
def wMost (w : Int) : Int := if w = 0 then 1000000000 else 1000000000000
def bdOf (w i j : Int) : Bd := if w = 0 then .jar i j else .win i j
def okBd (w : Int) (v v2 : Option Int) : Bool := goodB v 1 1000000000000000 && goodB v2 w (wMost w)
def m_law_number (c m : Int) : Int := ([c / 9 % 100, m, m + 1, 1, 0, -1, c * 999331 % m, m - 1, -c / 9] : List Int).getD (c % 9).toNat 0
section
def S__law_number (A : Ad) : DSp := fun ds μ kd _ => ∃ c m : Int, ds = [.int c, .int m] ∧ (0 ≤ c ∧ 1 ≤ m ∧ m ≤ 1000000000000000) ∧ kd (.int (m_law_number c m)) μ
def S__law_odd (A : Ad) : DSp := fun ds μ kd _ => ∃ c : Int, ds = [.int c] ∧ 0 ≤ c ∧ ∀ d μ', Thing μ' d none → ExtM μ μ' → kd d μ'
def S__law_good (A : Ad) : DSp := fun ds μ kd _ => ∃ (d e : Dv) (v w : Option Int) (m l : Int), ds = [d, e, .int m, .int l] ∧ Thing μ d v ∧ Thing μ e w ∧ kd (.bl (goodB v 1 1000000000000000 && goodB w l m)) μ
def S__law_bound_of (A : Ad) : DSp := fun ds μ kd _ => ∃ (w : Int) (d e : Dv) (v v2 : Option Int), ds = [.int w, d, e] ∧ (w = 0 ∨ w = 1) ∧ Thing μ d v ∧ Thing μ e v2 ∧ (∀ i j, v = some i → v2 = some j → okBd w v v2 = true → kd ((bdOf w i j).pv A) μ) ∧ (okBd w v v2 = false → ∀ μ', ExtM μ μ' → kd (.bl true) μ')
def S__law_same (A : Ad) : DSp := fun ds μ kd _ => ∃ f d : Option Int, ds = [opI f, opI d] ∧ kd (.bl (decide (f = d))) μ
def S__law_rooms (A : Ad) : DSp := fun ds μ kd _ => ∃ (w i j c : Int), ds = [(bdOf w i j).pv A, .int w, .int i, .int j, .int c] ∧ (w = 0 ∨ w = 1) ∧ (bdOf w i j).ok ∧ 0 ≤ c ∧ kd (.bl true) μ
abbrev S_law (A : Ad) : DSp := DL.spLaw
end
theorem wMost_ok (w : Int) : 1 ≤ wMost w ∧ wMost w ≤ 1000000000000 := by unfold wMost; split <;> omega
theorem okBd_ok {w i j : Int} (hw : w = 0 ∨ w = 1) (h : okBd w (some i) (some j) = true) : (bdOf w i j).ok := by
  unfold okBd at h
  rw [Bool.and_eq_true] at h
  obtain ⟨h1, h2⟩ := h
  have a := and_dec (show (decide (1 ≤ i) && decide (i ≤ 1000000000000000)) = true from h1)
  have b := and_dec (show (decide (w ≤ j) && decide (j ≤ wMost w)) = true from h2)
  rcases hw with rfl | rfl
  · exact ⟨a, b.1, b.2⟩
  · exact ⟨a, b.1, b.2⟩
section
variable {K : Kf} {μ : M} {k : DK}
theorem d_ixB {x y : Dv} {b : Bool} (h : k (if b then y else x) μ) : DOp K (rIx K) (.lst [x, y]) (.int (if b then 1 else 0)) μ k := by
  cases b
  · exact d_ixL (.lst _) (d := x) rfl h
  · exact d_ixL (.lst _) (d := y) rfl h
end

local macro_rules | `(tactic| walk_at "cm") => `(tactic| first | exact Or.inr ⟨by decide, by decide⟩ | exact Or.inl ⟨by decide, by decide⟩ | exact Or.inl ⟨by omega, by omega⟩ | exact Or.inr ⟨by omega, by omega⟩)
local macro_rules | `(tactic| walk_at "cd") => `(tactic| first | exact ⟨by decide, by decide⟩ | exact ⟨by omega, by omega⟩)
local macro_rules | `(tactic| walk_at "lens") => `(tactic| first | decide | assumption | (rw [List.length_map]; assumption) | (simp only [List.length_cons, List.length_nil, List.length_append, List.length_map, sizeLine_eq]; omega))
local macro_rules | `(tactic| walk_at "ix") => `(tactic| first | omega | (simp only [List.length_cons, List.length_nil, List.length_map]; omega))
local macro_rules | `(tactic| walk_at "le") => `(tactic| repeat (first | exact LeE.nil | refine LeE.same ?_ | refine LeE.drop ?_))
local macro_rules | `(tactic| walk_at "fl") => `(tactic| first | decide | exact putD_lt1 | exact putD_lt2 | exact putD_lt3 | exact putD_ltF (m := 4) rfl (by decide) | exact putD_ltF (m := 3) rfl (by decide) | exact len_ltE (m := 4) rfl (by decide) | exact len_ltE (m := 3) rfl (by decide) | exact len_ltE (m := 2) rfl (by decide))
local macro_rules | `(tactic| walk_at "sq") => `(tactic| first | assumption | exact .lst _ | exact .fro _ | exact .obj (by first | assumption | exact updM_same))
def top (i : Nat) : Stmt := PySem.Challenge.pw_turnstile_k02_bounds_made.main.body.getD i (.Pass ⟨0, 0, 0, 0⟩)
abbrev s_need_number : Stmt := top 8
abbrev s_Jar_init : Stmt := inClass (top 10) 0
abbrev s_Jar_room : Stmt := inClass (top 10) 1
abbrev s_Window_init : Stmt := inClass (top 11) 0
abbrev s_Window_room : Stmt := inClass (top 11) 1
abbrev s__law_cell : Stmt := top 13
abbrev s__law_number : Stmt := top 14
abbrev s__law_odd : Stmt := top 15
abbrev s__law_good : Stmt := top 16
abbrev s__law_bound_of : Stmt := top 17
abbrev s__law_same : Stmt := top 18
abbrev s__law_rooms : Stmt := top 19
abbrev s_law : Stmt := top 20
section
variable {Pg : Program} {w : World} {K : Kf} {mg : Str → Option Value} {base : Heap} {A : Ad}
theorem sc_need_number : FnScope ["thing", "least", "most"] ["thing", "least", "most"] (defScope s_need_number) := ⟨rfl, rfl, rfl, by decide +kernel, rfl, by decide +kernel, by decide +kernel⟩
theorem ok_need_number {f : Addr} {fd : FuncData} (F : Fun K "need_number" "need_number" s_need_number f fd) (T : Txt K mg A) : FnOk Pg w K mg base (L2.CX Pg w) 1 f fd ["thing", "least", "most"] (toSp K (S_need_number A)) := by
  refine fn_data F sc_need_number (fun ds μ kd ke h => ?_) (fun cdv A_ outer s H E c ow ds μ kd ke h => ?_)
  · obtain ⟨thing, v, least, most, rfl, ht, hk1, hk2⟩ := h; rfl
  · obtain ⟨thing, v, least, most, rfl, ht, hk1, hk2⟩ := h
    refine jb_cons (js_if (jt_w ?_))
    rcases v with _ | i
    · refine jw_orP (!isIntD thing) true ?_ ?_ ⟨fun _ => jb_cons (js_raise c T.x_NoBound (hk2 rfl)), fun z => absurd z (by simp)⟩
      · refine jt_not (jt_val ?_)
        refine je_cB call_isiA T.m_isinstance PyProof.Rows.boot_isinstance (ja_cons (je_name 0 rfl rfl (ja_cons (je_bty T.m_int PyProof.Rows.boot_int (ja_nil (d_isInt ht ⟨_, rfl, rfl, rfl⟩))))))
      · intro h
        refine jw_or (jt_val ?_)
        refine je_cB call_isiA T.m_isinstance PyProof.Rows.boot_isinstance (ja_cons (je_name 0 rfl rfl (ja_cons (je_bty T.m_bool PyProof.Rows.boot_bool (ja_nil (d_isBool ht ⟨_, rfl, fun _ => ⟨rfl, rfl⟩, fun z => ?_⟩))))))
        have := ht.odd
        rw [h, z] at this
        cases this
    obtain rfl := ht.num
    refine jw_or (jt_not (jt_val ?_))
    refine je_cB call_isiA T.m_isinstance PyProof.Rows.boot_isinstance (ja_cons (je_name 0 rfl rfl (ja_cons (je_bty T.m_int PyProof.Rows.boot_int (ja_nil (d_isInt ht ⟨_, rfl, fun z => absurd (show false = true from z) (by decide), fun _ => ?_⟩))))))
    refine jw_or (jt_val ?_)
    refine je_cB call_isiA T.m_isinstance PyProof.Rows.boot_isinstance (ja_cons (je_name 0 rfl rfl (ja_cons (je_bty T.m_bool PyProof.Rows.boot_bool (ja_nil (d_isBool ht ⟨_, rfl, fun z => absurd (show false = true from z) (by decide), fun _ => ?_⟩))))))
    refine jw_or (jt_lt (je_name 0 rfl rfl (je_name 1 rfl rfl (d_cmpI ⟨_, rfl, fun z => ⟨fun _ => jb_cons (js_raise c T.x_NoBound (hk2 ?_)), fun z => nomatch z⟩, fun z => ?_⟩))))
    · have := of_decide_eq_true z
      show (decide (least ≤ i) && decide (i ≤ most)) = false
      rw [decide_eq_false (by omega)]; rfl
    refine jw_or1 (jt_gt (je_name 0 rfl rfl (je_name 2 rfl rfl (d_cmpI ⟨_, rfl, fun z2 => jb_cons (js_raise c T.x_NoBound (hk2 ?_)), fun z2 => jb_nil (jb_nil (hk1 ?_))⟩))))
    · have := of_decide_eq_true z2
      show (decide (least ≤ i) && decide (i ≤ most)) = false
      rw [decide_eq_false (show ¬ i ≤ most by omega)]; simp
    · have := of_decide_eq_false z
      have := of_decide_eq_false z2
      show (decide (least ≤ i) && decide (i ≤ most)) = true
      rw [decide_eq_true (by omega), decide_eq_true (by omega)]; rfl
theorem sc_Jar_init : FnScope ["self", "size", "flow"] ["self", "size", "flow"] (defScope s_Jar_init) := ⟨rfl, rfl, rfl, by decide +kernel, rfl, by decide +kernel, by decide +kernel⟩
theorem ok_Jar_init {f : Addr} {fd : FuncData} (F : Fun K "__init__" "Jar.__init__" s_Jar_init f fd) (T : Txt K mg A) (F_need_number : DCal Pg w K mg base 1 "need_number" (S_need_number A) []) : FnOk Pg w K mg base (L2.CX Pg w) 2 f fd ["self", "size", "flow"] (toSp K (S_Jar_init A)) := by
  refine fn_data F sc_Jar_init (fun ds μ kd ke h => ?_) (fun cdv A_ outer s H E c ow ds μ kd ke h => ?_)
  · obtain ⟨a_, size, flow, v, w, rfl, ha, h1, h2, hk1, hk2⟩ := h; rfl
  · obtain ⟨a_, size, flow, v, w, rfl, ha, h1, h2, hk1, hk2⟩ := h
    refine jb_cons (js_expr ?_)
    refine je_call c F_need_number (by decide) ?_
    refine ja_cons ?_
    refine je_name 1 rfl rfl ?_
    refine ja_cons ?_
    refine je_int ?_
    refine ja_cons ?_
    refine je_glob T.g_MOST_ROOM ?_
    refine ja_nil ?_
    refine ⟨_, _, _, _, rfl, by assumption, fun g => ?_, fun g => hk2 (by simp [g])⟩
    refine jb_cons (js_expr ?_)
    refine je_call c F_need_number (by decide) ?_
    refine ja_cons ?_
    refine je_name 2 rfl rfl ?_
    refine ja_cons ?_
    refine je_int ?_
    refine ja_cons ?_
    refine je_glob T.g_MOST_FLOW ?_
    refine ja_nil ?_
    refine ⟨_, _, _, _, rfl, by assumption, fun g => ?_, fun g => hk2 (by simp [g])⟩
    refine jb_cons (js_fld ?_)
    refine je_name 1 rfl rfl ?_
    refine je_name 0 rfl rfl ?_
    refine ⟨_, _, _, rfl, by first | assumption | exact updM_same, T.cl_Jar, T.na_Jar_size, by walk_at "fl", ?_⟩
    refine jb_cons (js_fld ?_)
    refine je_name 2 rfl rfl ?_
    refine je_name 0 rfl rfl ?_
    refine ⟨_, _, _, rfl, by first | assumption | exact updM_same, T.cl_Jar, T.na_Jar_flow, by walk_at "fl", ?_⟩
    rw [updM_updM]; exact jb_nil (hk1 (by simp [*]))
theorem sc_Jar_room : FnScope ["self", "first", "last"] ["self", "first", "last"] (defScope s_Jar_room) := ⟨rfl, rfl, rfl, by decide +kernel, rfl, by decide +kernel, by decide +kernel⟩
theorem ok_Jar_room {f : Addr} {fd : FuncData} (F : Fun K "room" "Jar.room" s_Jar_room f fd) (T : Txt K mg A) : FnOk Pg w K mg base (L2.CX Pg w) 1 f fd ["self", "first", "last"] (toSp K (S_Jar_room A)) := by
  refine fn_data F sc_Jar_room (fun ds μ kd ke h => ?_) (fun cdv A_ outer s H E c ow ds μ kd ke h => ?_)
  · obtain ⟨bs, bf, first, last, rfl, ⟨_, o3, o4⟩, hk⟩ := h; rfl
  · obtain ⟨bs, bf, first, last, rfl, ⟨_, o3, o4⟩, hk⟩ := h
    refine jb_cons (js_ret ?_)
    refine je_add ?_
    refine je_fld ?_
    refine je_name 0 rfl rfl ?_
    refine ⟨_, _, _, .ins _ _, T.cl_Jar, T.na_Jar_size, jarF_size _ _, ?_⟩
    refine je_mul ?_
    refine je_fld ?_
    refine je_name 0 rfl rfl ?_
    refine ⟨_, _, _, .ins _ _, T.cl_Jar, T.na_Jar_flow, jarF_flow _ _, ?_⟩
    refine je_sub ?_
    refine je_name 2 rfl rfl ?_
    refine je_name 1 rfl rfl ?_
    refine d_subI ?_
    first | refine d_mulI (by walk_at "cm") ?_ | refine d_mulL1 (by constructor) (by omega) ?_
    first | refine d_addI ?_ | refine d_addL (by constructor) (by constructor) (by walk_at "lens") ?_ | refine d_addS (by walk_at "lens") ?_ | refine d_addT (by walk_at "lens") ?_
    exact hk
theorem sc_Window_init : FnScope ["self", "most", "span"] ["self", "most", "span"] (defScope s_Window_init) := ⟨rfl, rfl, rfl, by decide +kernel, rfl, by decide +kernel, by decide +kernel⟩
theorem ok_Window_init {f : Addr} {fd : FuncData} (F : Fun K "__init__" "Window.__init__" s_Window_init f fd) (T : Txt K mg A) (F_need_number : DCal Pg w K mg base 1 "need_number" (S_need_number A) []) : FnOk Pg w K mg base (L2.CX Pg w) 2 f fd ["self", "most", "span"] (toSp K (S_Window_init A)) := by
  refine fn_data F sc_Window_init (fun ds μ kd ke h => ?_) (fun cdv A_ outer s H E c ow ds μ kd ke h => ?_)
  · obtain ⟨a_, most, span, v, w, rfl, ha, h1, h2, hk1, hk2⟩ := h; rfl
  · obtain ⟨a_, most, span, v, w, rfl, ha, h1, h2, hk1, hk2⟩ := h
    refine jb_cons (js_expr ?_)
    refine je_call c F_need_number (by decide) ?_
    refine ja_cons ?_
    refine je_name 1 rfl rfl ?_
    refine ja_cons ?_
    refine je_int ?_
    refine ja_cons ?_
    refine je_glob T.g_MOST_ROOM ?_
    refine ja_nil ?_
    refine ⟨_, _, _, _, rfl, by assumption, fun g => ?_, fun g => hk2 (by simp [g])⟩
    refine jb_cons (js_expr ?_)
    refine je_call c F_need_number (by decide) ?_
    refine ja_cons ?_
    refine je_name 2 rfl rfl ?_
    refine ja_cons ?_
    refine je_int ?_
    refine ja_cons ?_
    refine je_glob T.g_MOST_SPAN ?_
    refine ja_nil ?_
    refine ⟨_, _, _, _, rfl, by assumption, fun g => ?_, fun g => hk2 (by simp [g])⟩
    refine jb_cons (js_fld ?_)
    refine je_name 1 rfl rfl ?_
    refine je_name 0 rfl rfl ?_
    refine ⟨_, _, _, rfl, by first | assumption | exact updM_same, T.cl_Window, T.na_Window_most, by walk_at "fl", ?_⟩
    refine jb_cons (js_fld ?_)
    refine je_name 2 rfl rfl ?_
    refine je_name 0 rfl rfl ?_
    refine ⟨_, _, _, rfl, by first | assumption | exact updM_same, T.cl_Window, T.na_Window_span, by walk_at "fl", ?_⟩
    rw [updM_updM]; exact jb_nil (hk1 (by simp [*]))
theorem sc_Window_room : FnScope ["self", "first", "last"] ["self", "first", "last"] (defScope s_Window_room) := ⟨rfl, rfl, rfl, by decide +kernel, rfl, by decide +kernel, by decide +kernel⟩
theorem ok_Window_room {f : Addr} {fd : FuncData} (F : Fun K "room" "Window.room" s_Window_room f fd) (T : Txt K mg A) : FnOk Pg w K mg base (L2.CX Pg w) 1 f fd ["self", "first", "last"] (toSp K (S_Window_room A)) := by
  refine fn_data F sc_Window_room (fun ds μ kd ke h => ?_) (fun cdv A_ outer s H E c ow ds μ kd ke h => ?_)
  · obtain ⟨bs, bf, first, last, rfl, hk⟩ := h; rfl
  · obtain ⟨bs, bf, first, last, rfl, hk⟩ := h
    refine jb_cons (js_if ?_)
    refine jt_lt ?_
    refine je_sub ?_
    refine je_name 2 rfl rfl ?_
    refine je_name 1 rfl rfl ?_
    refine d_subI ?_
    refine je_fld ?_
    refine je_name 0 rfl rfl ?_
    refine ⟨_, _, _, .ins _ _, T.cl_Window, T.na_Window_span, winF_span _ _, ?_⟩
    refine d_cmpI ?_
    refine ⟨_, rfl, ?_⟩
    refine ⟨fun h1 => ?_, fun h1 => ?_⟩
    ·
      refine jb_cons (js_ret ?_)
      refine je_fld ?_
      refine je_name 0 rfl rfl ?_
      refine ⟨_, _, _, .ins _ _, T.cl_Window, T.na_Window_most, winF_most _ _, ?_⟩
      rw [show (Bd.win bs bf).room first last = some bs from if_pos (of_decide_eq_true h1)] at hk; exact hk
    refine jb_nil ?_
    refine jb_cons (js_ret ?_)
    refine je_non ?_
    rw [show (Bd.win bs bf).room first last = none from if_neg (of_decide_eq_false h1)] at hk; exact hk
theorem sc__law_cell : FnScope ["_law_script", "_law_k", "_law_cell_here", "_law_more"] ["_law_script", "_law_k"] (defScope s__law_cell) := ⟨rfl, rfl, rfl, by decide +kernel, rfl, by decide +kernel, by decide +kernel⟩
theorem ok__law_cell {f : Addr} {fd : FuncData} (F : Fun K "_law_cell" "_law_cell" s__law_cell f fd) (T : Txt K mg A) : FnOk Pg w K mg base (L2.CX Pg w) 1 f fd ["_law_script", "_law_k"] (toSp K (S__law_cell A)) := by
  refine fn_data F sc__law_cell (fun ds μ kd ke h => ?_) (fun cdv A_ outer s H E c ow ds μ kd ke h => ?_)
  · obtain ⟨ns, _law_k, rfl, hns, hk⟩ := h; rfl
  · obtain ⟨ns, _law_k, rfl, hns, hk⟩ := h
    refine jb_cons (js_set 2 c rfl ?_)
    refine je_add ?_
    refine je_mul ?_
    refine je_int ?_
    refine je_name 1 rfl rfl ?_
    first | refine d_mulI (by walk_at "cm") ?_ | refine d_mulL1 (by constructor) (by omega) ?_
    refine je_int ?_
    first | refine d_addI ?_ | refine d_addL (by constructor) (by constructor) (by walk_at "lens") ?_ | refine d_addS (by walk_at "lens") ?_ | refine d_addT (by walk_at "lens") ?_
    refine jb_cons (js_if ?_)
    refine jt_ne c ?_
    refine je_name 0 rfl rfl ?_
    refine je_lst ?_
    refine ja_nil ?_
    refine ⟨by walk_at "lens", ?_⟩
    first | refine d_neI ?_ | refine d_neNil Enc.int (by decide) _ (.inr rfl) ?_ | refine d_neNil encV (by decide) _ (.inl rfl) ?_ | refine d_neS ?_ | refine d_neB ?_ | refine d_neNI ?_
    refine ⟨_, rfl, ?_⟩
    refine ⟨fun h1 => ?_, fun h1 => ?_⟩
    · have hne : ¬ ns = [] := by simpa using h1
      have hpos : 0 < ns.length := List.length_pos_iff.mpr hne
      refine jb_cons (js_set 2 c rfl ?_)
      refine je_add ?_
      refine je_add ?_
      refine je_name 2 rfl rfl ?_
      refine je_mul ?_
      refine je_ix ?_
      refine je_name 0 rfl rfl ?_
      refine je_mod ?_
      refine je_name 1 rfl rfl ?_
      refine je_cB call_lenA T.m_len PySem.boot_len ?_
      refine ja_cons ?_
      refine je_name 0 rfl rfl ?_
      refine ja_nil ?_
      first | refine d_lenM (by walk_at "sq") ?_ | refine d_lenL (by walk_at "sq") ?_ | refine d_lenT ?_ | refine d_lenS (by walk_at "lens") ?_
      refine d_modI (by first | decide | omega) ?_
      refine d_ixInts ns (.fro _) (Int.emod_nonneg _ (by omega)) (Int.emod_lt_of_pos _ (by omega)) ?_
      refine je_int ?_
      first | refine d_mulI (by walk_at "cm") ?_ | refine d_mulL1 (by constructor) (by omega) ?_
      first | refine d_addI ?_ | refine d_addL (by constructor) (by constructor) (by walk_at "lens") ?_ | refine d_addS (by walk_at "lens") ?_ | refine d_addT (by walk_at "lens") ?_
      refine je_mul ?_
      refine je_int ?_
      refine je_name 1 rfl rfl ?_
      first | refine d_mulI (by walk_at "cm") ?_ | refine d_mulL1 (by constructor) (by omega) ?_
      first | refine d_addI ?_ | refine d_addL (by constructor) (by constructor) (by walk_at "lens") ?_ | refine d_addS (by walk_at "lens") ?_ | refine d_addT (by walk_at "lens") ?_
      refine jb_cons (js_set 2 c rfl ?_)
      refine je_add ?_
      refine je_name 2 rfl rfl ?_
      refine je_mul ?_
      refine je_fdiv ?_
      refine je_name 1 rfl rfl ?_
      refine je_cB call_lenA T.m_len PySem.boot_len ?_
      refine ja_cons ?_
      refine je_name 0 rfl rfl ?_
      refine ja_nil ?_
      first | refine d_lenM (by walk_at "sq") ?_ | refine d_lenL (by walk_at "sq") ?_ | refine d_lenT ?_ | refine d_lenS (by walk_at "lens") ?_
      refine d_fdivI (by walk_at "cd") ?_
      refine je_int ?_
      first | refine d_mulI (by walk_at "cm") ?_ | refine d_mulL1 (by constructor) (by omega) ?_
      first | refine d_addI ?_ | refine d_addL (by constructor) (by constructor) (by walk_at "lens") ?_ | refine d_addS (by walk_at "lens") ?_ | refine d_addT (by walk_at "lens") ?_
      refine jb_nil ?_
      refine jb_cons (js_set 3 c rfl ?_)
      refine je_mod ?_
      refine je_name 2 rfl rfl ?_
      refine je_int ?_
      refine d_modI (by first | decide | omega) ?_
      refine jb_cons (js_set 3 c rfl ?_)
      refine je_mod ?_
      refine je_mul ?_
      refine je_name 3 rfl rfl ?_
      refine je_name 3 rfl rfl ?_
      first | refine d_mulI (by walk_at "cm") ?_ | refine d_mulL1 (by constructor) (by omega) ?_
      refine je_int ?_
      refine d_modI (by first | decide | omega) ?_
      refine jb_cons (js_ret ?_)
      refine je_mod ?_
      refine je_add ?_
      refine je_add ?_
      refine je_mul ?_
      refine je_name 3 rfl rfl ?_
      refine je_name 3 rfl rfl ?_
      first | refine d_mulI (by walk_at "cm") ?_ | refine d_mulL1 (by constructor) (by omega) ?_
      refine je_mul ?_
      refine je_int ?_
      refine je_name 3 rfl rfl ?_
      first | refine d_mulI (by walk_at "cm") ?_ | refine d_mulL1 (by constructor) (by omega) ?_
      first | refine d_addI ?_ | refine d_addL (by constructor) (by constructor) (by walk_at "lens") ?_ | refine d_addS (by walk_at "lens") ?_ | refine d_addT (by walk_at "lens") ?_
      refine je_name 1 rfl rfl ?_
      first | refine d_addI ?_ | refine d_addL (by constructor) (by constructor) (by walk_at "lens") ?_ | refine d_addS (by walk_at "lens") ?_ | refine d_addT (by walk_at "lens") ?_
      refine je_int ?_
      refine d_modI (by first | decide | omega) ?_
      rw [cell_ne hne] at hk; exact hk
    have hne : ns = [] := by simpa using h1
    refine jb_nil ?_
    refine jb_cons (js_set 3 c rfl ?_)
    refine je_mod ?_
    refine je_name 2 rfl rfl ?_
    refine je_int ?_
    refine d_modI (by first | decide | omega) ?_
    refine jb_cons (js_set 3 c rfl ?_)
    refine je_mod ?_
    refine je_mul ?_
    refine je_name 3 rfl rfl ?_
    refine je_name 3 rfl rfl ?_
    first | refine d_mulI (by walk_at "cm") ?_ | refine d_mulL1 (by constructor) (by omega) ?_
    refine je_int ?_
    refine d_modI (by first | decide | omega) ?_
    refine jb_cons (js_ret ?_)
    refine je_mod ?_
    refine je_add ?_
    refine je_add ?_
    refine je_mul ?_
    refine je_name 3 rfl rfl ?_
    refine je_name 3 rfl rfl ?_
    first | refine d_mulI (by walk_at "cm") ?_ | refine d_mulL1 (by constructor) (by omega) ?_
    refine je_mul ?_
    refine je_int ?_
    refine je_name 3 rfl rfl ?_
    first | refine d_mulI (by walk_at "cm") ?_ | refine d_mulL1 (by constructor) (by omega) ?_
    first | refine d_addI ?_ | refine d_addL (by constructor) (by constructor) (by walk_at "lens") ?_ | refine d_addS (by walk_at "lens") ?_ | refine d_addT (by walk_at "lens") ?_
    refine je_name 1 rfl rfl ?_
    first | refine d_addI ?_ | refine d_addL (by constructor) (by constructor) (by walk_at "lens") ?_ | refine d_addS (by walk_at "lens") ?_ | refine d_addT (by walk_at "lens") ?_
    refine je_int ?_
    refine d_modI (by first | decide | omega) ?_
    rw [cell_nil hne] at hk; exact hk
theorem sc__law_number : FnScope ["_law_cell_here", "_law_most", "_law_some"] ["_law_cell_here", "_law_most"] (defScope s__law_number) := ⟨rfl, rfl, rfl, by decide +kernel, rfl, by decide +kernel, by decide +kernel⟩
theorem ok__law_number {f : Addr} {fd : FuncData} (F : Fun K "_law_number" "_law_number" s__law_number f fd) (T : Txt K mg A) : FnOk Pg w K mg base (L2.CX Pg w) 1 f fd ["_law_cell_here", "_law_most"] (toSp K (S__law_number A)) := by
  refine fn_data F sc__law_number (fun ds μ kd ke h => ?_) (fun cdv A_ outer s H E c ow ds μ kd ke h => ?_)
  · obtain ⟨_law_cell_here, _law_most, rfl, ⟨h0, h1_, h2_⟩, hk⟩ := h; rfl
  · obtain ⟨_law_cell_here, _law_most, rfl, ⟨h0, h1_, h2_⟩, hk⟩ := h
    refine jb_cons (js_set 2 c rfl ?_)
    refine je_lst ?_
    refine ja_cons ?_
    refine je_mod ?_
    refine je_fdiv ?_
    refine je_name 0 rfl rfl ?_
    refine je_int ?_
    refine d_fdivI (by walk_at "cd") ?_
    refine je_int ?_
    refine d_modI (by first | decide | omega) ?_
    refine ja_cons ?_
    refine je_name 1 rfl rfl ?_
    refine ja_cons ?_
    refine je_add ?_
    refine je_name 1 rfl rfl ?_
    refine je_int ?_
    first | refine d_addI ?_ | refine d_addL (by constructor) (by constructor) (by walk_at "lens") ?_ | refine d_addS (by walk_at "lens") ?_ | refine d_addT (by walk_at "lens") ?_
    refine ja_cons ?_
    refine je_int ?_
    refine ja_cons ?_
    refine je_int ?_
    refine ja_cons ?_
    refine je_neg ?_
    refine je_int ?_
    refine d_negI ?_
    refine ja_cons ?_
    refine je_mod ?_
    refine je_mul ?_
    refine je_name 0 rfl rfl ?_
    refine je_int ?_
    first | refine d_mulI (by walk_at "cm") ?_ | refine d_mulL1 (by constructor) (by omega) ?_
    refine je_name 1 rfl rfl ?_
    refine d_modI (by first | decide | omega) ?_
    refine ja_cons ?_
    refine je_sub ?_
    refine je_name 1 rfl rfl ?_
    refine je_int ?_
    refine d_subI ?_
    refine ja_cons ?_
    refine je_fdiv ?_
    refine je_neg ?_
    refine je_name 0 rfl rfl ?_
    refine d_negI ?_
    refine je_int ?_
    refine d_fdivI (by walk_at "cd") ?_
    refine ja_nil ?_
    refine ⟨by walk_at "lens", ?_⟩
    refine jb_cons (js_ret ?_)
    refine je_ix ?_
    refine je_name 2 rfl rfl ?_
    refine je_mod ?_
    refine je_name 0 rfl rfl ?_
    refine je_int ?_
    refine d_modI (by first | decide | omega) ?_
    refine d_ixInts [_law_cell_here / 9 % 100, _law_most, _law_most + 1, 1, 0, -1, _law_cell_here * 999331 % _law_most, _law_most - 1, -_law_cell_here / 9] (.lst _) (by omega) (by simp; omega) ?_
    exact hk
theorem sc__law_odd : FnScope ["_law_cell_here"] ["_law_cell_here"] (defScope s__law_odd) := ⟨rfl, rfl, rfl, by decide +kernel, rfl, by decide +kernel, by decide +kernel⟩
theorem ok__law_odd {f : Addr} {fd : FuncData} (F : Fun K "_law_odd" "_law_odd" s__law_odd f fd) (T : Txt K mg A) : FnOk Pg w K mg base (L2.CX Pg w) 1 f fd ["_law_cell_here"] (toSp K (S__law_odd A)) := by
  refine fn_data F sc__law_odd (fun ds μ kd ke h => ?_) (fun cdv A_ outer s H E c ow ds μ kd ke h => ?_)
  · obtain ⟨_law_cell_here, rfl, h0, hk⟩ := h; rfl
  · obtain ⟨_law_cell_here, rfl, h0, hk⟩ := h
    rw [show defBody s__law_odd = [Stmt.Return (some _) _] from rfl]
    refine @jb_cons _ _ _ _ _ _ _ _ (js_ret ?_) trivial
    refine je_ix ?_
    refine je_lst ?_
    refine ja_cons ?_
    refine je_non ?_
    refine ja_cons ?_
    refine je_bl ?_
    refine ja_cons ?_
    refine je_bl ?_
    refine ja_cons ?_
    refine je_str ?_
    refine ja_cons ?_
    refine je_tup ?_
    refine ja_cons ?_
    refine je_int ?_
    refine ja_nil ?_
    refine ⟨by walk_at "lens", ?_⟩
    refine ja_cons ?_
    refine je_lst ?_
    refine ja_cons ?_
    refine je_int ?_
    refine ja_nil ?_
    refine ⟨by walk_at "lens", ?_⟩
    refine ja_cons ?_
    refine je_dnew fun a_ ha_ => ?_
    refine ja_cons ?_
    refine je_str ?_
    refine ja_cons ?_
    refine je_str ?_
    refine ja_nil ?_
    refine ⟨by walk_at "lens", ?_⟩
    refine je_mod ?_
    refine je_name 0 rfl rfl ?_
    refine je_int ?_
    refine d_modI (by first | decide | omega) ?_
    refine d_ixAny (by omega) (by simp; omega) fun d hd => ?_
    simp only [List.mem_cons, List.not_mem_nil, or_false] at hd
    rcases hd with rfl | rfl | rfl | rfl | rfl | rfl | rfl | rfl | rfl
    · exact hk _ _ (.non) (ext_new ha_)
    · exact hk _ _ (.bl _) (ext_new ha_)
    · exact hk _ _ (.bl _) (ext_new ha_)
    · exact hk _ _ (.str _) (ext_new ha_)
    · exact hk _ _ (.tup _) (ext_new ha_)
    · exact hk _ _ (.lst _) (ext_new ha_)
    · exact hk _ _ (.dic updM_same) (ext_new ha_)
    · exact hk _ _ (.str _) (ext_new ha_)
    · exact hk _ _ (.str _) (ext_new ha_)
    
theorem sc__law_good : FnScope ["_law_one", "_law_other", "_law_most", "_law_least", "_law_thing"] ["_law_one", "_law_other", "_law_most", "_law_least"] (defScope s__law_good) := ⟨rfl, rfl, rfl, by decide +kernel, rfl, by decide +kernel, by decide +kernel⟩
theorem ok__law_good {f : Addr} {fd : FuncData} (F : Fun K "_law_good" "_law_good" s__law_good f fd) (T : Txt K mg A) : FnOk Pg w K mg base (L2.CX Pg w) 1 f fd ["_law_one", "_law_other", "_law_most", "_law_least"] (toSp K (S__law_good A)) := by
  refine fn_data F sc__law_good (fun ds μ kd ke h => ?_) (fun cdv A_ outer s H E c ow ds μ kd ke h => ?_)
  · obtain ⟨d, e_, v, w, m, l, rfl, t1, t2, hk⟩ := h; rfl
  · obtain ⟨d, e_, v, w, m, l, rfl, t1, t2, hk⟩ := h
    refine jb_cons (js_forT 4 c.calm ow (pg_name (i := 4) c.nd rfl (by first | exact Or.inl rfl | exact Or.inr rfl)) ?_)
    refine ji_tup ?_
    refine je_tup ?_
    refine ja_cons ?_
    refine je_name 0 rfl rfl ?_
    refine ja_cons ?_
    refine je_name 1 rfl rfl ?_
    refine ja_nil ?_
    refine ⟨by walk_at "lens", ?_⟩
    refine ⟨_, rfl, ?_⟩
    refine ⟨fun j e μ' => (e = [some d, some e_, some (.int m), some (.int l), none] ∧ (1 ≤ j → v ≠ none) ∧ (2 ≤ j → w ≠ none)) ∧ μ = μ', ?_, fun _ _ _ _ => trivial, fun j x e μ' hx iv => ?_, fun e μ' iv n' hle => ?_⟩
    · exact ⟨_, LeE.refl _, ⟨rfl, fun z => absurd z (by omega), fun z => absurd z (by omega)⟩, rfl⟩
    ·
      obtain ⟨⟨rfl, p1, p2⟩, rfl⟩ := iv
      have hx' : ([d, e_] : List Dv)[j]? = some x := hx
      obtain ⟨vx, tx, hj⟩ : ∃ vx, Thing μ x vx ∧ ((j = 0 ∧ vx = v) ∨ (j = 1 ∧ vx = w)) := by
        rcases j with _ | _ | j
        · cases hx'; exact ⟨v, t1, .inl ⟨rfl, rfl⟩⟩
        · cases hx'; exact ⟨w, t2, .inr ⟨rfl, rfl⟩⟩
        · cases hx'
      refine jb_cons (js_if ?_)
      refine jt_w ?_
      apply jw_orP
      ·
        refine jt_not ?_
        refine jt_val ?_
        refine je_cB call_isiA T.m_isinstance PyProof.Rows.boot_isinstance ?_
        refine ja_cons ?_
        refine je_name 4 rfl rfl ?_
        refine ja_cons ?_
        refine je_bty T.m_int PyProof.Rows.boot_int ?_
        refine ja_nil ?_
        refine d_isInt tx ?_
        refine ⟨_, rfl, ?_⟩
        exact ⟨rfl, rfl⟩
      ·
        intro h1
        refine jw_or1 ?_
        refine jt_val ?_
        refine je_cB call_isiA T.m_isinstance PyProof.Rows.boot_isinstance ?_
        refine ja_cons ?_
        refine je_name 4 rfl rfl ?_
        refine ja_cons ?_
        refine je_bty T.m_bool PyProof.Rows.boot_bool ?_
        refine ja_nil ?_
        refine d_isBool tx ?_
        refine ⟨_, rfl, ?_⟩
        exact ⟨rfl, rfl⟩
      refine ⟨fun h2 => ?_, fun h2 => ?_⟩
      ·
        refine jb_cons (js_ret ?_)
        refine je_bl ?_
        have hv : vx = none := by
          cases vx with
          | none => rfl
          | some i => obtain rfl := tx.num; exact absurd (show false = true from h2) (by decide)
        rcases hj with ⟨_, q⟩ | ⟨_, q⟩
        · rw [show v = none from q.symm.trans hv] at hk; exact hk
        · rw [show w = none from q.symm.trans hv, show goodB none l m = false from rfl, Bool.and_false] at hk; exact hk
      refine jb_nil ?_
      refine jb_nil ?_
      have hv : vx ≠ none := fun z => by
        subst z
        have := tx.odd
        rw [h2] at this
        cases this
      rcases hj with ⟨q1, q2⟩ | ⟨q1, q2⟩
      · refine ⟨_, ?_, ⟨rfl, fun _ z => hv (q2.trans z), fun z => absurd z (by omega)⟩, rfl⟩
        walk_at "le"
      · refine ⟨_, ?_, ⟨rfl, fun _ => p1 (by omega), fun _ z => hv (q2.trans z)⟩, rfl⟩
        walk_at "le"
    obtain ⟨⟨rfl, p1, p2⟩, rfl⟩ := iv
    refine JB.le ?_ hle
    obtain ⟨i, rfl⟩ := Option.ne_none_iff_exists'.mp (p1 (show 1 ≤ 2 by omega))
    obtain ⟨j, rfl⟩ := Option.ne_none_iff_exists'.mp (p2 (show 2 ≤ 2 by omega))
    obtain rfl := t1.num
    obtain rfl := t2.num
    refine jb_cons (js_ret ?_)
    apply je_andP
    ·
      apply je_chainP op_le op_le
      · with_unfolding_all rfl
      ·
        refine je_int ?_
        refine je_name 0 rfl rfl ?_
        refine d_cmpI ?_
        refine ⟨⟨rfl, rfl⟩, fun h3 => ?_⟩
        refine je_pow ?_
        refine je_int ?_
        refine je_int ?_
        refine d_powE (v := 1000000000000000) ⟨by decide, by decide, by decide⟩ rfl ?_
        refine d_cmpI ?_
        exact ⟨rfl, rfl⟩
      exact ⟨rfl, rfl⟩
    ·
      intro h4
      refine je_one ?_
      apply je_chainP op_le op_le
      · with_unfolding_all rfl
      ·
        refine je_name 3 rfl rfl ?_
        refine je_name 1 rfl rfl ?_
        refine d_cmpI ?_
        refine ⟨⟨rfl, rfl⟩, fun h5 => ?_⟩
        refine je_name 2 rfl rfl ?_
        refine d_cmpI ?_
        exact ⟨rfl, rfl⟩
      exact ⟨rfl, rfl⟩
    exact hk
theorem sc__law_bound_of : FnScope ["_law_way", "_law_one", "_law_other", "e", "_law_found"] ["_law_way", "_law_one", "_law_other"] (defScope s__law_bound_of) := ⟨rfl, rfl, rfl, by decide +kernel, rfl, by decide +kernel, by decide +kernel⟩
theorem ok__law_bound_of {f : Addr} {fd : FuncData} (F : Fun K "_law_bound_of" "_law_bound_of" s__law_bound_of f fd) (T : Txt K mg A) (F_Window : DMak Pg w K mg base 2 "Window" A.CW (S_Window_init A) []) (F_Jar : DMak Pg w K mg base 2 "Jar" A.CJ (S_Jar_init A) []) : FnOk Pg w K mg base (L2.CX Pg w) 4 f fd ["_law_way", "_law_one", "_law_other"] (toSp K (S__law_bound_of A)) := by
  refine fn_data F sc__law_bound_of (fun ds μ kd ke h => ?_) (fun cdv A_ outer s H E c ow ds μ kd ke h => ?_)
  · obtain ⟨w, d, e, v, v2, rfl, hw, t1, t2, hk1, hk2⟩ := h; rfl
  · obtain ⟨w, d, e, v, v2, rfl, hw, t1, t2, hk1, hk2⟩ := h
    refine jb_cons (js_try 3 c rfl ⟨rfl, by decide, .inl T.x_GateError.g⟩ ?_)
    intro pq1 xe1 W1 c1 ow1
    refine jb_cons (js_if (jt_eq c1 (je_name 0 rfl rfl (je_int (d_eqI ⟨_, rfl, ?_⟩)))))
    rcases hw with rfl | rfl
    · refine ⟨fun _ => jb_cons (js_ret ?_), fun z => absurd z (by decide)⟩
      refine je_make c1 F_Jar (by decide) (ja_cons (je_name 1 rfl rfl (ja_cons (je_name 2 rfl rfl (ja_nil ?_)))))
      refine fun a_ ha_ => ⟨_, _, _, _, _, rfl, updM_same, t1.ext (ext_new ha_), t2.ext (ext_new ha_), fun g => ⟨rfl, .inr ⟨_, _, updM_same, ?_⟩⟩, fun g => ?_⟩
      · obtain ⟨g1, g2⟩ : _ ∧ _ := by rw [Bool.and_eq_true] at g; exact g
        obtain ⟨i, rfl, _⟩ := goodB_some g1
        obtain ⟨j, rfl, _⟩ := goodB_some g2
        obtain rfl := t1.num
        obtain rfl := t2.num
        rw [updM_updM, delM_updM ha_]
        exact hk1 i j rfl rfl g
      refine ⟨true, T.ex_NoBound_GateError, fun _ => ⟨_, rfl, fun z pq => ?_⟩, fun z => (nomatch z)⟩
      refine jb_cons (js_setN 4 c.nd rfl ?_)
      refine je_cB call_isX T.m_isinstance PyProof.Rows.boot_isinstance (ja_cons (je_name 3 rfl rfl (ja_cons (je_glob T.g_NoBound (ja_nil (d_isX T.xc_NoBound (.own _) T.kit_NoBound_NoBound ?_))))))
      exact jb_nil (jb_cons (js_ret (je_name 4 rfl rfl (hk2 g _ (ext_new ha_)))))
    refine ⟨fun z => absurd z (by decide), fun _ => jb_nil (jb_cons (js_ret ?_))⟩
    refine je_make c1 F_Window (by decide) (ja_cons (je_name 1 rfl rfl (ja_cons (je_name 2 rfl rfl (ja_nil ?_)))))
    refine fun a_ ha_ => ⟨_, _, _, _, _, rfl, updM_same, t1.ext (ext_new ha_), t2.ext (ext_new ha_), fun g => ⟨rfl, .inr ⟨_, _, updM_same, ?_⟩⟩, fun g => ?_⟩
    · obtain ⟨g1, g2⟩ : _ ∧ _ := by rw [Bool.and_eq_true] at g; exact g
      obtain ⟨i, rfl, _⟩ := goodB_some g1
      obtain ⟨j, rfl, _⟩ := goodB_some g2
      obtain rfl := t1.num
      obtain rfl := t2.num
      rw [updM_updM, delM_updM ha_]
      exact hk1 i j rfl rfl g
    refine ⟨true, T.ex_NoBound_GateError, fun _ => ⟨_, rfl, fun z pq => ?_⟩, fun z => (nomatch z)⟩
    refine jb_cons (js_setN 4 c.nd rfl ?_)
    refine je_cB call_isX T.m_isinstance PyProof.Rows.boot_isinstance (ja_cons (je_name 3 rfl rfl (ja_cons (je_glob T.g_NoBound (ja_nil (d_isX T.xc_NoBound (.own _) T.kit_NoBound_NoBound ?_))))))
    exact jb_nil (jb_cons (js_ret (je_name 4 rfl rfl (hk2 g _ (ext_new ha_)))))
theorem sc__law_same : FnScope ["_law_found", "_law_due"] ["_law_found", "_law_due"] (defScope s__law_same) := ⟨rfl, rfl, rfl, by decide +kernel, rfl, by decide +kernel, by decide +kernel⟩
theorem ok__law_same {f : Addr} {fd : FuncData} (F : Fun K "_law_same" "_law_same" s__law_same f fd) (T : Txt K mg A) : FnOk Pg w K mg base (L2.CX Pg w) 1 f fd ["_law_found", "_law_due"] (toSp K (S__law_same A)) := by
  refine fn_data F sc__law_same (fun ds μ kd ke h => ?_) (fun cdv A_ outer s H E c ow ds μ kd ke h => ?_)
  · obtain ⟨f_, d_, rfl, hk⟩ := h; rfl
  · obtain ⟨f_, d_, rfl, hk⟩ := h
    rcases d_ with _ | q
    · refine jb_cons (js_if (jt_is (je_name 1 rfl rfl (je_non (d_isN ⟨_, rfl, fun _ => ?_, fun z => absurd (show true = false from z) (by decide)⟩)))))
      refine jb_cons (js_ret (je_is (je_name 0 rfl rfl (je_non (d_isN ?_)))))
      rw [show isNonD (opI f_) = decide (f_ = none) from by cases f_ <;> rfl]
      exact hk
    refine jb_cons (js_if (jt_is (je_name 1 rfl rfl (je_non (d_isN ⟨_, rfl, fun z => absurd (show false = true from z) (by decide), fun _ => jb_nil ?_⟩)))))
    refine jb_cons (js_ret (je_and ?_))
    refine je_cB call_isiA T.m_isinstance PyProof.Rows.boot_isinstance ?_
    refine ja_cons (je_name 0 rfl rfl (ja_cons (je_bty T.m_int PyProof.Rows.boot_int (ja_nil ?_))))
    rcases f_ with _ | p
    · exact d_isi .non (.ty _) (kit_ty (r := false) (by decide +kernel)) ⟨_, rfl, fun z => (nomatch z), fun _ => hk⟩
    refine d_isi (.int _) (.ty _) (kit_ty (r := true) (by decide +kernel)) ⟨_, rfl, fun _ => ?_, fun z => (nomatch z)⟩
    refine je_and (je_not ?_)
    refine je_cB call_isiA T.m_isinstance PyProof.Rows.boot_isinstance ?_
    refine ja_cons (je_name 0 rfl rfl (ja_cons (je_bty T.m_bool PyProof.Rows.boot_bool (ja_nil ?_))))
    refine d_isi (.int _) (.ty _) (kit_ty (r := false) (by decide +kernel)) ⟨_, rfl, ⟨_, rfl, fun _ => ?_, fun z => (nomatch z)⟩⟩
    refine je_one (je_eq c (je_name 0 rfl rfl (je_name 1 rfl rfl (d_eqI ?_))))
    rw [show decide (some p = some q) = decide (p = q) from by simp] at hk
    exact hk
theorem sc__law_rooms : FnScope ["_law_bound", "_law_way", "_law_one", "_law_other", "_law_cell_here", "_law_last", "_law_first", "_law_due"] ["_law_bound", "_law_way", "_law_one", "_law_other", "_law_cell_here"] (defScope s__law_rooms) := ⟨rfl, rfl, rfl, by decide +kernel, rfl, by decide +kernel, by decide +kernel⟩
theorem ok__law_rooms {f : Addr} {fd : FuncData} (F : Fun K "_law_rooms" "_law_rooms" s__law_rooms f fd) (T : Txt K mg A) (F__law_same : DCal Pg w K mg base 1 "_law_same" (S__law_same A) []) (M_Jar_room : DMet Pg w K mg base 1 A.CJ "room" (S_Jar_room A) []) (M_Window_room : DMet Pg w K mg base 1 A.CW "room" (S_Window_room A) []) : FnOk Pg w K mg base (L2.CX Pg w) 2 f fd ["_law_bound", "_law_way", "_law_one", "_law_other", "_law_cell_here"] (toSp K (S__law_rooms A)) := by
  refine fn_data F sc__law_rooms (fun ds μ kd ke h => ?_) (fun cdv A_ outer s H E c ow ds μ kd ke h => ?_)
  · obtain ⟨w, i, j, c_, rfl, hw, ok, hc, hk⟩ := h; rfl
  · obtain ⟨w, i, j, c_, rfl, hw, ok, hc, hk⟩ := h
    have hj0 : 0 ≤ j ∧ j ≤ 1000000000000 := by
      rcases hw with rfl | rfl
      · have q := (show (1 ≤ i ∧ i ≤ 1000000000000000) ∧ 0 ≤ j ∧ j ≤ 1000000000 from ok)
        omega
      · have q := (show (1 ≤ i ∧ i ≤ 1000000000000000) ∧ 1 ≤ j ∧ j ≤ 1000000000000 from ok)
        omega
    refine jb_cons (js_forT 5 c.calm ow (pg_name (i := 5) c.nd rfl (by first | exact Or.inl rfl | exact Or.inr rfl)) ?_)
    refine ji_tup ?_
    refine je_tup ?_
    refine ja_cons ?_
    refine je_int ?_
    refine ja_cons ?_
    refine je_int ?_
    refine ja_cons ?_
    refine je_sub ?_
    refine je_name 3 rfl rfl ?_
    refine je_int ?_
    refine d_subI ?_
    refine ja_cons ?_
    refine je_name 3 rfl rfl ?_
    refine ja_cons ?_
    refine je_add ?_
    refine je_name 3 rfl rfl ?_
    refine je_int ?_
    first | refine d_addI ?_ | refine d_addL (by constructor) (by constructor) (by walk_at "lens") ?_ | refine d_addS (by walk_at "lens") ?_ | refine d_addT (by walk_at "lens") ?_
    refine ja_cons ?_
    refine je_mod ?_
    refine je_name 4 rfl rfl ?_
    refine je_int ?_
    refine d_modI (by first | decide | omega) ?_
    refine ja_cons ?_
    refine je_mod ?_
    refine je_name 4 rfl rfl ?_
    refine je_pow ?_
    refine je_int ?_
    refine je_int ?_
    refine d_powE (v := 1000000) ⟨by decide, by decide, by decide⟩ rfl ?_
    refine d_modI (by first | decide | omega) ?_
    refine ja_nil ?_
    refine ⟨by walk_at "lens", ?_⟩
    refine ⟨_, rfl, ?_⟩
    refine ⟨fun j2 e μ' => e = [some ((bdOf w i j).pv A), some (.int w), some (.int i), some (.int j), some (.int c_), none, none, none] ∧ μ = μ', ?_, fun _ _ _ _ => trivial, fun j2 x e μ' hx iv => ?_, fun e μ' iv n' hle => ?_⟩
    · exact ⟨_, LeE.refl _, rfl, rfl⟩
    ·
      obtain ⟨rfl, rfl⟩ := iv
      obtain ⟨last, rfl⟩ : ∃ last : Int, x = .int last := by
        have hm := List.mem_of_getElem? hx
        simp only [Src.items, List.mem_cons, List.not_mem_nil, or_false] at hm
        rcases hm with rfl | rfl | rfl | rfl | rfl | rfl | rfl <;> exact ⟨_, rfl⟩
      refine jb_cons (js_set 6 c rfl ?_)
      refine je_mod ?_
      refine je_fdiv ?_
      refine je_name 4 rfl rfl ?_
      refine je_int ?_
      refine d_fdivI (by walk_at "cd") ?_
      refine je_pow ?_
      refine je_int ?_
      refine je_int ?_
      refine d_powE (v := 1000000) ⟨by decide, by decide, by decide⟩ rfl ?_
      refine d_modI (by first | decide | omega) ?_
      refine jb_cons (js_if ?_)
      refine jt_ge ?_
      refine je_name 5 rfl rfl ?_
      refine je_int ?_
      refine d_cmpI ?_
      refine ⟨_, rfl, ?_⟩
      refine ⟨fun h1 => ?_, fun h1 => ?_⟩
      ·
        refine jb_cons (js_set 7 c rfl ?_)
        refine je_to (opI ((bdOf w i j).room (c_ / 7 % 1000000) (c_ / 7 % 1000000 + last))) ?_ ?_
        ·
          refine je_ix ?_
          refine je_lst ?_
          refine ja_cons ?_
          refine je_add ?_
          refine je_name 2 rfl rfl ?_
          refine je_mul ?_
          refine je_name 3 rfl rfl ?_
          refine je_name 5 rfl rfl ?_
          first | refine d_mulI (by walk_at "cm") ?_ | refine d_mulL1 (by constructor) (by omega) ?_
          first | refine d_addI ?_ | refine d_addL (by constructor) (by constructor) (by walk_at "lens") ?_ | refine d_addS (by walk_at "lens") ?_ | refine d_addT (by walk_at "lens") ?_
          refine ja_cons ?_
          refine je_ix ?_
          refine je_lst ?_
          refine ja_cons ?_
          refine je_non ?_
          refine ja_cons ?_
          refine je_name 2 rfl rfl ?_
          refine ja_nil ?_
          refine ⟨by walk_at "lens", ?_⟩
          refine je_cT call_int1 T.m_int PyProof.Rows.boot_int ?_
          refine ja_cons ?_
          refine je_lt ?_
          refine je_name 5 rfl rfl ?_
          refine je_name 3 rfl rfl ?_
          refine d_cmpI ?_
          refine ja_nil ?_
          first | refine d_intI ?_ | refine d_intB ?_
          refine d_ixB ?_
          refine ja_nil ?_
          refine ⟨by walk_at "lens", ?_⟩
          refine je_name 1 rfl rfl ?_
          have e0 : c_ / 7 % 1000000 + last - c_ / 7 % 1000000 = last := by omega
          rcases hw with rfl | rfl
          · exact d_ixL (.lst _) (d := .int (i + j * last)) rfl ⟨by show _ = Dv.int (i + j * (c_ / 7 % 1000000 + last - c_ / 7 % 1000000)); rw [e0], rfl⟩
          · refine d_ixL (.lst _) (d := if decide (last < j) then .int i else .non) rfl ⟨?_, rfl⟩
            show _ = opI (if c_ / 7 % 1000000 + last - c_ / 7 % 1000000 < j then some i else none)
            rw [e0]
            by_cases q : last < j
            · rw [decide_eq_true q, if_pos q]; rfl
            · rw [decide_eq_false q, if_neg q]; rfl
          
        refine jb_cons (js_if ?_)
        refine jt_not ?_
        refine jt_val ?_
        refine je_call c F__law_same (by decide) ?_
        refine ja_cons ?_
        refine je_room c M_Jar_room M_Window_room (by decide) (bdOf w i j) ok ?_
        refine je_name 0 rfl rfl ?_
        refine ⟨rfl, ?_⟩
        refine ja_cons ?_
        refine je_name 6 rfl rfl ?_
        refine ja_cons ?_
        refine je_add ?_
        refine je_name 6 rfl rfl ?_
        refine je_name 5 rfl rfl ?_
        first | refine d_addI ?_ | refine d_addL (by constructor) (by constructor) (by walk_at "lens") ?_ | refine d_addS (by walk_at "lens") ?_ | refine d_addT (by walk_at "lens") ?_
        refine ja_nil ?_
        refine ⟨_, _, rfl, ?_⟩
        refine ja_cons ?_
        refine je_name 7 rfl rfl ?_
        refine ja_nil ?_
        refine ⟨_, _, rfl, ?_⟩
        refine ⟨_, rfl, ?_⟩
        refine ⟨fun h2 => absurd h2 (by simp), fun h2 => ?_⟩
        refine jb_nil ?_
        refine jb_nil (jb_nil ?_)
        refine ⟨_, ?_, rfl, rfl⟩
        walk_at "le"
      refine jb_nil ?_
      refine jb_nil ?_
      refine ⟨_, ?_, rfl, rfl⟩
      walk_at "le"
    obtain ⟨rfl, rfl⟩ := iv
    refine JB.le ?_ hle
    refine jb_cons (js_ret ?_)
    refine je_bl ?_
    exact hk
theorem sc_law : FnScope ["_law_script", "_law_k", "_law_cell_here", "_law_way", "_law_most", "_law_one", "_law_other", "_law_found"] ["_law_script"] (defScope s_law) := ⟨rfl, rfl, rfl, by decide +kernel, rfl, by decide +kernel, by decide +kernel⟩
theorem ok_law {f : Addr} {fd : FuncData} (F : Fun K "law" "law" s_law f fd) (T : Txt K mg A) (F__law_cell : DCal Pg w K mg base 1 "_law_cell" (S__law_cell A) []) (F__law_number : DCal Pg w K mg base 1 "_law_number" (S__law_number A) []) (F__law_bound_of : DCal Pg w K mg base 4 "_law_bound_of" (S__law_bound_of A) []) (F__law_odd : DCal Pg w K mg base 1 "_law_odd" (S__law_odd A) []) (F__law_good : DCal Pg w K mg base 1 "_law_good" (S__law_good A) []) (F__law_rooms : DCal Pg w K mg base 2 "_law_rooms" (S__law_rooms A) []) : FnOk Pg w K mg base (L2.CX Pg w) 5 f fd ["_law_script"] (toSp K (S_law A)) := by
  refine fn_data F sc_law (fun ds μ kd ke h => ?_) (fun cdv A_ outer s H E c ow ds μ kd ke h => ?_)
  · obtain ⟨ns, rfl, hns, rfl, hk⟩ := h; rfl
  · obtain ⟨ns, rfl, hns, rfl, hk⟩ := h
    refine jb_cons (js_forT 1 c.calm ow (pg_name (i := 1) c.nd rfl (by first | exact Or.inl rfl | exact Or.inr rfl)) ?_)
    refine ji_range1 T.m_range ?_
    refine ja_cons ?_
    refine je_cB (call_max2 c.calm) T.m_max PyProof.Rows.boot_max ?_
    refine ja_cons ?_
    refine je_int ?_
    refine ja_cons ?_
    refine je_cB call_lenA T.m_len PySem.boot_len ?_
    refine ja_cons ?_
    refine je_name 0 rfl rfl ?_
    refine ja_nil ?_
    first | refine d_lenM (by walk_at "sq") ?_ | refine d_lenL (by walk_at "sq") ?_ | refine d_lenT ?_ | refine d_lenS (by walk_at "lens") ?_
    refine ja_nil ?_
    refine d_max2 ?_
    refine ja_nil ?_
    refine ⟨_, rfl, by omega, by omega, ?_⟩
    refine ⟨fun j e μ' => e = [some (.fro (ns.map Dv.int)), none, none, none, none, none, none, none], ?_, fun _ _ _ _ => trivial, fun j x e μ' hx iv => ?_, fun e μ' iv n' hle => ?_⟩
    · exact ⟨_, LeE.refl _, rfl⟩
    ·
      obtain rfl := iv
      obtain ⟨rfl, hj⟩ := rng_item0 hx
      have hj : j < 64 := by omega
      refine jb_cons (js_set 2 c rfl ?_)
      refine je_call c F__law_cell (by decide) ?_
      refine ja_cons ?_
      refine je_name 0 rfl rfl ?_
      refine ja_cons ?_
      refine je_mul ?_
      refine je_int ?_
      refine je_name 1 rfl rfl ?_
      first | refine d_mulI (by walk_at "cm") ?_ | refine d_mulL1 (by constructor) (by omega) ?_
      refine ja_nil ?_
      refine ⟨ns, _, rfl, hns, ?_⟩
      refine jb_cons (js_set 3 c rfl ?_)
      refine je_mod ?_
      refine je_name 2 rfl rfl ?_
      refine je_int ?_
      refine d_modI (by first | decide | omega) ?_
      generalize hC : m_law_cell ns (5 * (j : Int)) = C at *
      have hC0 : 0 ≤ C := hC ▸ cell_lo ns _
      generalize hw1 : C % 2 = w at *
      have hw0 : w = 0 ∨ w = 1 := by omega
      have hwm := wMost_ok w
      refine jb_cons (js_set 4 c rfl ?_)
      refine je_to (.int (wMost w)) ?_ ?_
      ·
        refine je_ix ?_
        refine je_lst ?_
        refine ja_cons ?_
        refine je_pow ?_
        refine je_int ?_
        refine je_int ?_
        refine d_powE (v := 1000000000) ⟨by decide, by decide, by decide⟩ rfl ?_
        refine ja_cons ?_
        refine je_pow ?_
        refine je_int ?_
        refine je_int ?_
        refine d_powE (v := 1000000000000) ⟨by decide, by decide, by decide⟩ rfl ?_
        refine ja_nil ?_
        refine ⟨by walk_at "lens", ?_⟩
        refine je_name 3 rfl rfl ?_
        refine d_ixInts [1000000000, 1000000000000] (.lst _) (by walk_at "ix") (by walk_at "ix") ?_
        rcases hw0 with rfl | rfl <;> exact ⟨rfl, rfl⟩
      refine jb_cons (js_set 5 c rfl ?_)
      refine je_call c F__law_number (by decide) ?_
      refine ja_cons ?_
      refine je_call c F__law_cell (by decide) ?_
      refine ja_cons ?_
      refine je_name 0 rfl rfl ?_
      refine ja_cons ?_
      refine je_add ?_
      refine je_mul ?_
      refine je_int ?_
      refine je_name 1 rfl rfl ?_
      first | refine d_mulI (by walk_at "cm") ?_ | refine d_mulL1 (by constructor) (by omega) ?_
      refine je_int ?_
      first | refine d_addI ?_ | refine d_addL (by constructor) (by constructor) (by walk_at "lens") ?_ | refine d_addS (by walk_at "lens") ?_ | refine d_addT (by walk_at "lens") ?_
      refine ja_nil ?_
      refine ⟨ns, _, rfl, hns, ?_⟩
      refine ja_cons ?_
      refine je_pow ?_
      refine je_int ?_
      refine je_int ?_
      refine d_powE (v := 1000000000000000) ⟨by decide, by decide, by decide⟩ rfl ?_
      refine ja_nil ?_
      refine ⟨_, _, rfl, ⟨cell_lo _ _, by omega, by omega⟩, ?_⟩
      refine jb_cons (js_set 6 c rfl ?_)
      refine je_call c F__law_number (by decide) ?_
      refine ja_cons ?_
      refine je_call c F__law_cell (by decide) ?_
      refine ja_cons ?_
      refine je_name 0 rfl rfl ?_
      refine ja_cons ?_
      refine je_add ?_
      refine je_mul ?_
      refine je_int ?_
      refine je_name 1 rfl rfl ?_
      first | refine d_mulI (by walk_at "cm") ?_ | refine d_mulL1 (by constructor) (by omega) ?_
      refine je_int ?_
      first | refine d_addI ?_ | refine d_addL (by constructor) (by constructor) (by walk_at "lens") ?_ | refine d_addS (by walk_at "lens") ?_ | refine d_addT (by walk_at "lens") ?_
      refine ja_nil ?_
      refine ⟨ns, _, rfl, hns, ?_⟩
      refine ja_cons ?_
      refine je_name 4 rfl rfl ?_
      refine ja_nil ?_
      refine ⟨_, _, rfl, ⟨cell_lo _ _, by omega, by omega⟩, ?_⟩
      generalize m_law_number (m_law_cell ns (5 * (j : Int) + 2)) (wMost w) = o2 at *
      refine jb_cut (fun e μ2 => ∃ d v, Thing μ2 d v ∧ e = [some (.fro (ns.map Dv.int)), some (.int (j : Int)), some (.int C), some (.int w), some (.int (wMost w)), some d, some (.int o2), none]) (js_if ?_) ?_
      ·
        
        refine jt_eq c ?_
        refine je_mod ?_
        refine je_fdiv ?_
        refine je_name 2 rfl rfl ?_
        refine je_int ?_
        refine d_fdivI (by walk_at "cd") ?_
        refine je_int ?_
        refine d_modI (by first | decide | omega) ?_
        refine je_int ?_
        first | refine d_eqI ?_ | refine d_eqS ?_ | refine d_eqB ?_ | refine d_eqNI ?_
        refine ⟨_, rfl, ?_⟩
        refine ⟨fun h1 => ?_, fun h1 => ?_⟩
        ·
          refine jb_cons (js_set 5 c rfl ?_)
          refine je_call c F__law_odd (by decide) ?_
          refine ja_cons ?_
          refine je_fdiv ?_
          refine je_name 2 rfl rfl ?_
          refine je_int ?_
          refine d_fdivI (by walk_at "cd") ?_
          refine ja_nil ?_
          refine ⟨_, rfl, by omega, fun dd μ9 tt x9 => ?_⟩
          refine jb_nil ?_
          exact ⟨_, LeE.refl _, dd, none, tt, rfl⟩
        refine jb_nil ?_
        exact ⟨_, LeE.refl _, _, _, .int _, rfl⟩
      rintro e μ2 ⟨d, v, td, rfl⟩
      refine jb_cut (fun e μ3 => Thing μ3 d v ∧ ∃ e2 v2, Thing μ3 e2 v2 ∧ e = [some (.fro (ns.map Dv.int)), some (.int (j : Int)), some (.int C), some (.int w), some (.int (wMost w)), some d, some e2, none]) (js_if ?_) ?_
      ·
        
        refine jt_eq c ?_
        refine je_mod ?_
        refine je_fdiv ?_
        refine je_name 2 rfl rfl ?_
        refine je_int ?_
        refine d_fdivI (by walk_at "cd") ?_
        refine je_int ?_
        refine d_modI (by first | decide | omega) ?_
        refine je_int ?_
        first | refine d_eqI ?_ | refine d_eqS ?_ | refine d_eqB ?_ | refine d_eqNI ?_
        refine ⟨_, rfl, ?_⟩
        refine ⟨fun h2 => ?_, fun h2 => ?_⟩
        ·
          refine jb_cons (js_set 6 c rfl ?_)
          refine je_call c F__law_odd (by decide) ?_
          refine ja_cons ?_
          refine je_fdiv ?_
          refine je_name 2 rfl rfl ?_
          refine je_int ?_
          refine d_fdivI (by walk_at "cd") ?_
          refine ja_nil ?_
          refine ⟨_, rfl, by omega, fun dd μ9 tt x9 => ?_⟩
          refine jb_nil ?_
          exact ⟨_, LeE.refl _, td.ext x9, dd, none, tt, rfl⟩
        refine jb_nil ?_
        exact ⟨_, LeE.refl _, td, _, _, .int _, rfl⟩
      rintro e μ3 ⟨td, e2, v2, te, rfl⟩
      refine jb_cons (js_set 7 c rfl ?_)
      refine je_call c F__law_bound_of (by decide) ?_
      refine ja_cons ?_
      refine je_name 3 rfl rfl ?_
      refine ja_cons ?_
      refine je_name 5 rfl rfl ?_
      refine ja_cons ?_
      refine je_name 6 rfl rfl ?_
      refine ja_nil ?_
      refine ⟨_, _, _, _, _, rfl, hw0, td, te, fun i j2 e1 e3 g => ?_, fun g μ4 x4 => ?_⟩
      ·
        subst e1; subst e3
        obtain rfl := td.num
        obtain rfl := te.num
        have okx := okBd_ok hw0 g
        rcases hw0 with rfl | rfl
        ·
          
          refine jb_cons (js_if ?_)
          refine jt_not ?_
          refine jt_val ?_
          refine je_call c F__law_good (by decide) ?_
          refine ja_cons ?_
          refine je_name 5 rfl rfl ?_
          refine ja_cons ?_
          refine je_name 6 rfl rfl ?_
          refine ja_cons ?_
          refine je_name 4 rfl rfl ?_
          refine ja_cons ?_
          refine je_name 3 rfl rfl ?_
          refine ja_nil ?_
          refine ⟨_, _, _, _, _, _, rfl, td, te, ?_⟩
          refine ⟨_, rfl, ?_⟩
          refine ⟨fun h3 => absurd h3 (by first | (rw [show (goodB (some i) 1 1000000000000000 && goodB (some j2) _ _) = true from g]; decide) | simp), fun h3 => ?_⟩
          refine jb_cons (js_if ?_)
          refine jt_w ?_
          apply jw_orP
          ·
            refine jt_not ?_
            refine jt_val ?_
            refine je_cB call_isiA T.m_isinstance PyProof.Rows.boot_isinstance ?_
            refine ja_cons ?_
            refine je_name 7 rfl rfl ?_
            refine ja_cons ?_
            refine je_glob T.g_Bound ?_
            refine ja_nil ?_
            refine d_isi (.ins (.ins _ _) T.cl_Jar T.ic_Jar T.isn T.ist T.im_Jar) (.own _) T.kit_Jar_Bound ?_
            refine ⟨_, rfl, ?_⟩
            exact ⟨rfl, rfl⟩
          ·
            intro h4
            refine jw_or1 ?_
            refine jt_ne c ?_
            refine je_cB call_isiA T.m_isinstance PyProof.Rows.boot_isinstance ?_
            refine ja_cons ?_
            refine je_name 7 rfl rfl ?_
            refine ja_cons ?_
            refine je_glob T.g_Jar ?_
            refine ja_nil ?_
            refine d_isi (.ins (.ins _ _) T.cl_Jar T.ic_Jar T.isn T.ist T.im_Jar) (.own _) T.kit_Jar_Jar ?_
            refine je_eq c ?_
            refine je_name 3 rfl rfl ?_
            refine je_int ?_
            first | refine d_eqI ?_ | refine d_eqS ?_ | refine d_eqB ?_ | refine d_eqNI ?_
            first | refine d_neI ?_ | refine d_neNil Enc.int (by decide) _ (.inr rfl) ?_ | refine d_neNil encV (by decide) _ (.inl rfl) ?_ | refine d_neS ?_ | refine d_neB ?_ | refine d_neNI ?_
            refine ⟨_, rfl, ?_⟩
            exact ⟨rfl, rfl⟩
          refine ⟨fun h5 => absurd h5 (by first | (rw [show (goodB (some i) 1 1000000000000000 && goodB (some j2) _ _) = true from g]; decide) | simp), fun h5 => ?_⟩
          refine jb_cons (js_if ?_)
          refine jt_w ?_
          apply jw_andP
          ·
            refine jt_eq c ?_
            refine je_name 3 rfl rfl ?_
            refine je_int ?_
            first | refine d_eqI ?_ | refine d_eqS ?_ | refine d_eqB ?_ | refine d_eqNI ?_
            refine ⟨_, rfl, ?_⟩
            exact ⟨rfl, rfl⟩
          ·
            intro h6
            refine jw_and1 ?_
            refine jt_ne c ?_
            refine je_tup ?_
            refine ja_cons ?_
            refine je_fld ?_
            refine je_name 7 rfl rfl ?_
            refine ⟨_, _, _, by first | exact .ins _ _ | exact .obj (by first | assumption | exact updM_same | exact hμ _ _ (by assumption)), T.cl_Jar, T.na_Jar_size, jarF_size .., ?_⟩
            refine ja_cons ?_
            refine je_fld ?_
            refine je_name 7 rfl rfl ?_
            refine ⟨_, _, _, by first | exact .ins _ _ | exact .obj (by first | assumption | exact updM_same | exact hμ _ _ (by assumption)), T.cl_Jar, T.na_Jar_flow, jarF_flow .., ?_⟩
            refine ja_nil ?_
            refine ⟨by walk_at "lens", ?_⟩
            refine je_tup ?_
            refine ja_cons ?_
            refine je_name 5 rfl rfl ?_
            refine ja_cons ?_
            refine je_name 6 rfl rfl ?_
            refine ja_nil ?_
            refine ⟨by walk_at "lens", ?_⟩
            refine d_neE encV (by decide) (x := (i, j2)) (y := (i, j2)) rfl rfl ?_
            refine ⟨_, rfl, ?_⟩
            exact ⟨rfl, rfl⟩
          refine ⟨fun h7 => absurd h7 (by first | (rw [show (goodB (some i) 1 1000000000000000 && goodB (some j2) _ _) = true from g]; decide) | simp), fun h7 => ?_⟩
          refine jb_cons (js_if ?_)
          refine jt_w ?_
          refine jw_and ?_
          refine jt_eq c ?_
          refine je_name 3 rfl rfl ?_
          refine je_int ?_
          first | refine d_eqI ?_ | refine d_eqS ?_ | refine d_eqB ?_ | refine d_eqNI ?_
          refine ⟨_, rfl, ?_⟩
          refine ⟨fun z => absurd z (by decide +kernel), fun _ => ?_⟩
          refine ⟨fun h8 => absurd h8 (by first | (rw [show (goodB (some i) 1 1000000000000000 && goodB (some j2) _ _) = true from g]; decide) | simp), fun h8 => ?_⟩
          refine jb_cons (js_if ?_)
          refine jt_not ?_
          refine jt_val ?_
          refine je_call c F__law_rooms (by decide) ?_
          refine ja_cons ?_
          refine je_name 7 rfl rfl ?_
          refine ja_cons ?_
          refine je_name 3 rfl rfl ?_
          refine ja_cons ?_
          refine je_name 5 rfl rfl ?_
          refine ja_cons ?_
          refine je_name 6 rfl rfl ?_
          refine ja_cons ?_
          refine je_call c F__law_cell (by decide) ?_
          refine ja_cons ?_
          refine je_name 0 rfl rfl ?_
          refine ja_cons ?_
          refine je_add ?_
          refine je_mul ?_
          refine je_int ?_
          refine je_name 1 rfl rfl ?_
          first | refine d_mulI (by walk_at "cm") ?_ | refine d_mulL1 (by constructor) (by omega) ?_
          refine je_int ?_
          first | refine d_addI ?_ | refine d_addL (by constructor) (by constructor) (by walk_at "lens") ?_ | refine d_addS (by walk_at "lens") ?_ | refine d_addT (by walk_at "lens") ?_
          refine ja_nil ?_
          refine ⟨ns, _, rfl, hns, ?_⟩
          refine ja_nil ?_
          refine ⟨_, i, j2, _, rfl, by first | exact .inl rfl | exact .inr rfl, okx, cell_lo _ _, ?_⟩
          refine ⟨_, rfl, ?_⟩
          refine ⟨fun h9 => absurd h9 (by first | (rw [show (goodB (some i) 1 1000000000000000 && goodB (some j2) _ _) = true from g]; decide) | simp), fun h9 => ?_⟩
          refine jb_nil ?_
          refine jb_nil ?_
          refine jb_nil ?_
          refine jb_nil ?_
          refine jb_nil ?_
          refine jb_nil ?_
          refine ⟨_, ?_, rfl⟩
          walk_at "le"
        ·
          
          refine jb_cons (js_if ?_)
          refine jt_not ?_
          refine jt_val ?_
          refine je_call c F__law_good (by decide) ?_
          refine ja_cons ?_
          refine je_name 5 rfl rfl ?_
          refine ja_cons ?_
          refine je_name 6 rfl rfl ?_
          refine ja_cons ?_
          refine je_name 4 rfl rfl ?_
          refine ja_cons ?_
          refine je_name 3 rfl rfl ?_
          refine ja_nil ?_
          refine ⟨_, _, _, _, _, _, rfl, td, te, ?_⟩
          refine ⟨_, rfl, ?_⟩
          refine ⟨fun h3 => absurd h3 (by first | (rw [show (goodB (some i) 1 1000000000000000 && goodB (some j2) _ _) = true from g]; decide) | simp), fun h3 => ?_⟩
          refine jb_cons (js_if ?_)
          refine jt_w ?_
          apply jw_orP
          ·
            refine jt_not ?_
            refine jt_val ?_
            refine je_cB call_isiA T.m_isinstance PyProof.Rows.boot_isinstance ?_
            refine ja_cons ?_
            refine je_name 7 rfl rfl ?_
            refine ja_cons ?_
            refine je_glob T.g_Bound ?_
            refine ja_nil ?_
            refine d_isi (.ins (.ins _ _) T.cl_Window T.ic_Window T.isn T.ist T.im_Window) (.own _) T.kit_Window_Bound ?_
            refine ⟨_, rfl, ?_⟩
            exact ⟨rfl, rfl⟩
          ·
            intro h4
            refine jw_or1 ?_
            refine jt_ne c ?_
            refine je_cB call_isiA T.m_isinstance PyProof.Rows.boot_isinstance ?_
            refine ja_cons ?_
            refine je_name 7 rfl rfl ?_
            refine ja_cons ?_
            refine je_glob T.g_Jar ?_
            refine ja_nil ?_
            refine d_isi (.ins (.ins _ _) T.cl_Window T.ic_Window T.isn T.ist T.im_Window) (.own _) T.kit_Window_Jar ?_
            refine je_eq c ?_
            refine je_name 3 rfl rfl ?_
            refine je_int ?_
            first | refine d_eqI ?_ | refine d_eqS ?_ | refine d_eqB ?_ | refine d_eqNI ?_
            first | refine d_neI ?_ | refine d_neNil Enc.int (by decide) _ (.inr rfl) ?_ | refine d_neNil encV (by decide) _ (.inl rfl) ?_ | refine d_neS ?_ | refine d_neB ?_ | refine d_neNI ?_
            refine ⟨_, rfl, ?_⟩
            exact ⟨rfl, rfl⟩
          refine ⟨fun h5 => absurd h5 (by first | (rw [show (goodB (some i) 1 1000000000000000 && goodB (some j2) _ _) = true from g]; decide) | simp), fun h5 => ?_⟩
          refine jb_cons (js_if ?_)
          refine jt_w ?_
          refine jw_and ?_
          refine jt_eq c ?_
          refine je_name 3 rfl rfl ?_
          refine je_int ?_
          first | refine d_eqI ?_ | refine d_eqS ?_ | refine d_eqB ?_ | refine d_eqNI ?_
          refine ⟨_, rfl, ?_⟩
          refine ⟨fun z => absurd z (by decide +kernel), fun _ => ?_⟩
          refine ⟨fun h6 => absurd h6 (by first | (rw [show (goodB (some i) 1 1000000000000000 && goodB (some j2) _ _) = true from g]; decide) | simp), fun h6 => ?_⟩
          refine jb_cons (js_if ?_)
          refine jt_w ?_
          apply jw_andP
          ·
            refine jt_eq c ?_
            refine je_name 3 rfl rfl ?_
            refine je_int ?_
            first | refine d_eqI ?_ | refine d_eqS ?_ | refine d_eqB ?_ | refine d_eqNI ?_
            refine ⟨_, rfl, ?_⟩
            exact ⟨rfl, rfl⟩
          ·
            intro h7
            refine jw_and1 ?_
            refine jt_ne c ?_
            refine je_tup ?_
            refine ja_cons ?_
            refine je_fld ?_
            refine je_name 7 rfl rfl ?_
            refine ⟨_, _, _, by first | exact .ins _ _ | exact .obj (by first | assumption | exact updM_same | exact hμ _ _ (by assumption)), T.cl_Window, T.na_Window_most, winF_most .., ?_⟩
            refine ja_cons ?_
            refine je_fld ?_
            refine je_name 7 rfl rfl ?_
            refine ⟨_, _, _, by first | exact .ins _ _ | exact .obj (by first | assumption | exact updM_same | exact hμ _ _ (by assumption)), T.cl_Window, T.na_Window_span, winF_span .., ?_⟩
            refine ja_nil ?_
            refine ⟨by walk_at "lens", ?_⟩
            refine je_tup ?_
            refine ja_cons ?_
            refine je_name 5 rfl rfl ?_
            refine ja_cons ?_
            refine je_name 6 rfl rfl ?_
            refine ja_nil ?_
            refine ⟨by walk_at "lens", ?_⟩
            refine d_neE encV (by decide) (x := (i, j2)) (y := (i, j2)) rfl rfl ?_
            refine ⟨_, rfl, ?_⟩
            exact ⟨rfl, rfl⟩
          refine ⟨fun h8 => absurd h8 (by first | (rw [show (goodB (some i) 1 1000000000000000 && goodB (some j2) _ _) = true from g]; decide) | simp), fun h8 => ?_⟩
          refine jb_cons (js_if ?_)
          refine jt_not ?_
          refine jt_val ?_
          refine je_call c F__law_rooms (by decide) ?_
          refine ja_cons ?_
          refine je_name 7 rfl rfl ?_
          refine ja_cons ?_
          refine je_name 3 rfl rfl ?_
          refine ja_cons ?_
          refine je_name 5 rfl rfl ?_
          refine ja_cons ?_
          refine je_name 6 rfl rfl ?_
          refine ja_cons ?_
          refine je_call c F__law_cell (by decide) ?_
          refine ja_cons ?_
          refine je_name 0 rfl rfl ?_
          refine ja_cons ?_
          refine je_add ?_
          refine je_mul ?_
          refine je_int ?_
          refine je_name 1 rfl rfl ?_
          first | refine d_mulI (by walk_at "cm") ?_ | refine d_mulL1 (by constructor) (by omega) ?_
          refine je_int ?_
          first | refine d_addI ?_ | refine d_addL (by constructor) (by constructor) (by walk_at "lens") ?_ | refine d_addS (by walk_at "lens") ?_ | refine d_addT (by walk_at "lens") ?_
          refine ja_nil ?_
          refine ⟨ns, _, rfl, hns, ?_⟩
          refine ja_nil ?_
          refine ⟨_, i, j2, _, rfl, by first | exact .inl rfl | exact .inr rfl, okx, cell_lo _ _, ?_⟩
          refine ⟨_, rfl, ?_⟩
          refine ⟨fun h9 => absurd h9 (by first | (rw [show (goodB (some i) 1 1000000000000000 && goodB (some j2) _ _) = true from g]; decide) | simp), fun h9 => ?_⟩
          refine jb_nil ?_
          refine jb_nil ?_
          refine jb_nil ?_
          refine jb_nil ?_
          refine jb_nil ?_
          refine jb_nil ?_
          refine ⟨_, ?_, rfl⟩
          walk_at "le"
      ·
        replace td := td.ext x4
        replace te := te.ext x4
        refine jb_cons (js_if ?_)
        refine jt_not ?_
        refine jt_val ?_
        refine je_call c F__law_good (by decide) ?_
        refine ja_cons ?_
        refine je_name 5 rfl rfl ?_
        refine ja_cons ?_
        refine je_name 6 rfl rfl ?_
        refine ja_cons ?_
        refine je_name 4 rfl rfl ?_
        refine ja_cons ?_
        refine je_name 3 rfl rfl ?_
        refine ja_nil ?_
        refine ⟨_, _, _, _, _, _, rfl, td, te, ?_⟩
        refine ⟨_, rfl, ?_⟩
        refine ⟨fun h3 => ?_, fun h3 => absurd h3 (by first | (rw [show (goodB v 1 1000000000000000 && goodB v2 _ _) = false from g]; decide) | simp)⟩
        refine jb_cons (js_if ?_)
        refine jt_isnotB ?_
        refine je_name 7 rfl rfl ?_
        refine je_bl ?_
        refine d_isnotB ?_
        refine ⟨_, rfl, ?_⟩
        refine ⟨fun h4 => absurd h4 (by first | (rw [show (goodB v 1 1000000000000000 && goodB v2 _ _) = false from g]; decide) | simp), fun h4 => ?_⟩
        refine jb_nil ?_
        refine jb_nil ?_
        refine jb_nil ?_
        refine ⟨_, ?_, rfl⟩
        walk_at "le"
    obtain rfl := iv
    refine JB.le ?_ hle
    refine jb_cons (js_ret ?_)
    refine je_bl ?_
    exact hk _
end
theorem all_mk {l : PySem.W.OpenLaw} {w : World} {K : Kf} {h : Heap} {mg : Str → Option Value} {fa aCGE aCNB aCB aCJ aCW f0 f1 f2 f3 f4 f5 f6 f7 f8 f9 f10 f11 f12 : Addr} (X : K.In h) (G : h.Ns mainGlobals mg) (hfa : mg "law" = some (.ref fa))
    {od0 an0 od1 an1 od2 an2 od3 an3 od4 an4 od5 an5 od6 an6 od7 an7 od8 an8 od9 an9 od10 an10 od11 an11 od12 an12 : Option Addr} {sl0 sl1 sl2 sl3 sl4 sl5 sl6 sl7 sl8 sl9 sl10 sl11 sl12 : Array (Option Value)} {oc0 kV0 dc0 pm0 cd0 ct0 oc1 kV1 dc1 pm1 cd1 ct1 oc2 kV2 dc2 pm2 cd2 ct2 oc3 kV3 dc3 pm3 cd3 ct3 oc4 kV4 dc4 pm4 cd4 ct4 oc5 kV5 dc5 pm5 cd5 ct5 oc6 kV6 dc6 pm6 cd6 ct6 oc7 kV7 dc7 pm7 cd7 ct7 oc8 kV8 dc8 pm8 cd8 ct8 oc9 kV9 dc9 pm9 cd9 ct9 oc10 kV10 dc10 pm10 cd10 ct10 oc11 kV11 dc11 pm11 cd11 ct11 oc12 kV12 dc12 pm12 cd12 ct12 : Value} {tk_MOST_ROOM tk_MOST_FLOW tk_MOST_SPAN : Tok}
    (n_GateError : PySem.W.nsIn K mainGlobals "GateError" = some (some (.ref aCGE)))
    (n_NoBound : PySem.W.nsIn K mainGlobals "NoBound" = some (some (.ref aCNB)))
    (n_Bound : PySem.W.nsIn K mainGlobals "Bound" = some (some (.ref aCB)))
    (n_Jar : PySem.W.nsIn K mainGlobals "Jar" = some (some (.ref aCJ)))
    (n_Window : PySem.W.nsIn K mainGlobals "Window" = some (some (.ref aCW)))
    (a0 : PySem.W.nsIn K mainGlobals "need_number" = some (some (.ref f0)))
    (l0 : K.lookup f0 = some ⟨oc0, od0, .func (PySem.W.fnOf "need_number" "need_number" (defArgs s_need_number) (defBody s_need_number) (defScope s_need_number) .none kV0 dc0 pm0 an0 cd0 ct0), sl0⟩)
    (c0 : PySem.W.codeIn K cd0 "need_number" = true)
    (k0 : PySem.W.keepIn K (.ref f0) = true)
    (a1_Jar : PySem.W.findIn K (.ref aCJ) "__init__" = some (some (.ref f1)))
    (i1 : PySem.W.isFn K (.ref f1) = true)
    (l1 : K.lookup f1 = some ⟨oc1, od1, .func (PySem.W.fnOf "__init__" "Jar.__init__" (defArgs s_Jar_init) (defBody s_Jar_init) (defScope s_Jar_init) .none kV1 dc1 pm1 an1 cd1 ct1), sl1⟩)
    (c1 : PySem.W.codeIn K cd1 "Jar.__init__" = true)
    (k1 : PySem.W.keepIn K (.ref f1) = true)
    (a2_Jar : PySem.W.findIn K (.ref aCJ) "room" = some (some (.ref f2)))
    (i2 : PySem.W.isFn K (.ref f2) = true)
    (l2 : K.lookup f2 = some ⟨oc2, od2, .func (PySem.W.fnOf "room" "Jar.room" (defArgs s_Jar_room) (defBody s_Jar_room) (defScope s_Jar_room) .none kV2 dc2 pm2 an2 cd2 ct2), sl2⟩)
    (c2 : PySem.W.codeIn K cd2 "Jar.room" = true)
    (k2 : PySem.W.keepIn K (.ref f2) = true)
    (a3_Window : PySem.W.findIn K (.ref aCW) "__init__" = some (some (.ref f3)))
    (i3 : PySem.W.isFn K (.ref f3) = true)
    (l3 : K.lookup f3 = some ⟨oc3, od3, .func (PySem.W.fnOf "__init__" "Window.__init__" (defArgs s_Window_init) (defBody s_Window_init) (defScope s_Window_init) .none kV3 dc3 pm3 an3 cd3 ct3), sl3⟩)
    (c3 : PySem.W.codeIn K cd3 "Window.__init__" = true)
    (k3 : PySem.W.keepIn K (.ref f3) = true)
    (a4_Window : PySem.W.findIn K (.ref aCW) "room" = some (some (.ref f4)))
    (i4 : PySem.W.isFn K (.ref f4) = true)
    (l4 : K.lookup f4 = some ⟨oc4, od4, .func (PySem.W.fnOf "room" "Window.room" (defArgs s_Window_room) (defBody s_Window_room) (defScope s_Window_room) .none kV4 dc4 pm4 an4 cd4 ct4), sl4⟩)
    (c4 : PySem.W.codeIn K cd4 "Window.room" = true)
    (k4 : PySem.W.keepIn K (.ref f4) = true)
    (a5 : PySem.W.nsIn K mainGlobals "_law_cell" = some (some (.ref f5)))
    (l5 : K.lookup f5 = some ⟨oc5, od5, .func (PySem.W.fnOf "_law_cell" "_law_cell" (defArgs s__law_cell) (defBody s__law_cell) (defScope s__law_cell) .none kV5 dc5 pm5 an5 cd5 ct5), sl5⟩)
    (c5 : PySem.W.codeIn K cd5 "_law_cell" = true)
    (k5 : PySem.W.keepIn K (.ref f5) = true)
    (a6 : PySem.W.nsIn K mainGlobals "_law_number" = some (some (.ref f6)))
    (l6 : K.lookup f6 = some ⟨oc6, od6, .func (PySem.W.fnOf "_law_number" "_law_number" (defArgs s__law_number) (defBody s__law_number) (defScope s__law_number) .none kV6 dc6 pm6 an6 cd6 ct6), sl6⟩)
    (c6 : PySem.W.codeIn K cd6 "_law_number" = true)
    (k6 : PySem.W.keepIn K (.ref f6) = true)
    (a7 : PySem.W.nsIn K mainGlobals "_law_odd" = some (some (.ref f7)))
    (l7 : K.lookup f7 = some ⟨oc7, od7, .func (PySem.W.fnOf "_law_odd" "_law_odd" (defArgs s__law_odd) (defBody s__law_odd) (defScope s__law_odd) .none kV7 dc7 pm7 an7 cd7 ct7), sl7⟩)
    (c7 : PySem.W.codeIn K cd7 "_law_odd" = true)
    (k7 : PySem.W.keepIn K (.ref f7) = true)
    (a8 : PySem.W.nsIn K mainGlobals "_law_good" = some (some (.ref f8)))
    (l8 : K.lookup f8 = some ⟨oc8, od8, .func (PySem.W.fnOf "_law_good" "_law_good" (defArgs s__law_good) (defBody s__law_good) (defScope s__law_good) .none kV8 dc8 pm8 an8 cd8 ct8), sl8⟩)
    (c8 : PySem.W.codeIn K cd8 "_law_good" = true)
    (k8 : PySem.W.keepIn K (.ref f8) = true)
    (a9 : PySem.W.nsIn K mainGlobals "_law_bound_of" = some (some (.ref f9)))
    (l9 : K.lookup f9 = some ⟨oc9, od9, .func (PySem.W.fnOf "_law_bound_of" "_law_bound_of" (defArgs s__law_bound_of) (defBody s__law_bound_of) (defScope s__law_bound_of) .none kV9 dc9 pm9 an9 cd9 ct9), sl9⟩)
    (c9 : PySem.W.codeIn K cd9 "_law_bound_of" = true)
    (k9 : PySem.W.keepIn K (.ref f9) = true)
    (a10 : PySem.W.nsIn K mainGlobals "_law_same" = some (some (.ref f10)))
    (l10 : K.lookup f10 = some ⟨oc10, od10, .func (PySem.W.fnOf "_law_same" "_law_same" (defArgs s__law_same) (defBody s__law_same) (defScope s__law_same) .none kV10 dc10 pm10 an10 cd10 ct10), sl10⟩)
    (c10 : PySem.W.codeIn K cd10 "_law_same" = true)
    (k10 : PySem.W.keepIn K (.ref f10) = true)
    (a11 : PySem.W.nsIn K mainGlobals "_law_rooms" = some (some (.ref f11)))
    (l11 : K.lookup f11 = some ⟨oc11, od11, .func (PySem.W.fnOf "_law_rooms" "_law_rooms" (defArgs s__law_rooms) (defBody s__law_rooms) (defScope s__law_rooms) .none kV11 dc11 pm11 an11 cd11 ct11), sl11⟩)
    (c11 : PySem.W.codeIn K cd11 "_law_rooms" = true)
    (k11 : PySem.W.keepIn K (.ref f11) = true)
    (a12 : PySem.W.nsIn K mainGlobals "law" = some (some (.ref f12)))
    (l12 : K.lookup f12 = some ⟨oc12, od12, .func (PySem.W.fnOf "law" "law" (defArgs s_law) (defBody s_law) (defScope s_law) .none kV12 dc12 pm12 an12 cd12 ct12), sl12⟩)
    (c12 : PySem.W.codeIn K cd12 "law" = true)
    (k12 : PySem.W.keepIn K (.ref f12) = true)
    (mk_Jar : PySem.W.makesIn K aCJ = true)
    (kc_Jar : PySem.W.keepIn K (.ref aCJ) = true)
    (mk_Window : PySem.W.makesIn K aCW = true)
    (kc_Window : PySem.W.keepIn K (.ref aCW) = true)
    (pg_Jar : PySem.W.plainGet K aCJ Str.empty = true)
    (hd_Jar : PySem.W.hasDictIn K aCJ = true)
    (po_Jar : PySem.W.plainOver K aCJ = true)
    (sa_Jar : PySem.W.findIn K (.ref aCJ) "__setattr__" = some (some (.builtin "object.__setattr__")))
    (na_Jar_size : PySem.W.findIn K (.ref aCJ) "size" = some none)
    (na_Jar_flow : PySem.W.findIn K (.ref aCJ) "flow" = some none)
    (pg_Window : PySem.W.plainGet K aCW Str.empty = true)
    (hd_Window : PySem.W.hasDictIn K aCW = true)
    (po_Window : PySem.W.plainOver K aCW = true)
    (sa_Window : PySem.W.findIn K (.ref aCW) "__setattr__" = some (some (.builtin "object.__setattr__")))
    (na_Window_most : PySem.W.findIn K (.ref aCW) "most" = some none)
    (na_Window_span : PySem.W.findIn K (.ref aCW) "span" = some none)
    (ic_Jar : PySem.W.findIn K (.ref aCJ) "__class__" = some (some (.builtin "object.__class__")))
    (im_Jar : PySem.W.mroIn K aCJ (.type "object") = some true)
    (ic_Window : PySem.W.findIn K (.ref aCW) "__class__" = some (some (.builtin "object.__class__")))
    (im_Window : PySem.W.mroIn K aCW (.type "object") = some true)
    (isn : PySem.W.specialIn K (.builtin "object.__class__") "__get__" = some (some (.builtin "getset_descriptor.__get__")))
    (ist : PySem.W.takesIn K (.builtin "object.__class__") = some true)
    (xq_GateError : PySem.W.excIn K aCGE [.type "ValueError", .type "Exception", .type "BaseException", .type "object"] "ValueError.__new__" = true)
    (xk_GateError : PySem.W.keepIn K (.ref aCGE) = true)
    (xb_GateError : PySem.W.subIn K (.ref aCGE) (.type "BaseException") = some true)
    (xt_GateError : PySem.W.typeIn K (.ref aCGE) = some (.type "type"))
    (eg_GateError : PySem.W.findIn K (.ref aCGE) "__getattribute__" = some (some (.builtin "BaseException.__getattribute__")))
    (ek_GateError : PySem.W.findIn K (.ref aCGE) "__getattr__" = some none)
    (ed_GateError : PySem.W.hasDictIn K aCGE = true)
    (ea_GateError : PySem.W.findIn K (.ref aCGE) "__class__" = some (some (.builtin "object.__class__")))
    (em_GateError : PySem.W.mroIn K aCGE (.type "object") = some true)
    (xq_NoBound : PySem.W.excIn K aCNB [.type "ValueError", .type "Exception", .type "BaseException", .type "object"] "ValueError.__new__" = true)
    (xk_NoBound : PySem.W.keepIn K (.ref aCNB) = true)
    (xb_NoBound : PySem.W.subIn K (.ref aCNB) (.type "BaseException") = some true)
    (xt_NoBound : PySem.W.typeIn K (.ref aCNB) = some (.type "type"))
    (eg_NoBound : PySem.W.findIn K (.ref aCNB) "__getattribute__" = some (some (.builtin "BaseException.__getattribute__")))
    (ek_NoBound : PySem.W.findIn K (.ref aCNB) "__getattr__" = some none)
    (ed_NoBound : PySem.W.hasDictIn K aCNB = true)
    (ea_NoBound : PySem.W.findIn K (.ref aCNB) "__class__" = some (some (.builtin "object.__class__")))
    (em_NoBound : PySem.W.mroIn K aCNB (.type "object") = some true)
    (sub_NoBound_GateError : PySem.W.subIn K (.ref aCNB) (.ref aCGE) = some true)
    (kit_Jar_Bound : PySem.W.kitOne K (.ref aCJ) (.ref aCB) = some true)
    (kit_Window_Bound : PySem.W.kitOne K (.ref aCW) (.ref aCB) = some true)
    (kit_Jar_Jar : PySem.W.kitOne K (.ref aCJ) (.ref aCJ) = some true)
    (kit_Window_Jar : PySem.W.kitOne K (.ref aCW) (.ref aCJ) = some false)
    (kit_NoBound_NoBound : PySem.W.kitOne K (.ref aCNB) (.ref aCNB) = some true)
    (m_len : PySem.W.nsIn K mainGlobals "len" = some none)
    (m_isinstance : PySem.W.nsIn K mainGlobals "isinstance" = some none)
    (m_int : PySem.W.nsIn K mainGlobals "int" = some none)
    (m_bool : PySem.W.nsIn K mainGlobals "bool" = some none)
    (m_range : PySem.W.nsIn K mainGlobals "range" = some none)
    (m_max : PySem.W.nsIn K mainGlobals "max" = some none)
    (g_MOST_ROOM : PySem.W.nsIn K mainGlobals "MOST_ROOM" = some (some (.int 1000000000000000 tk_MOST_ROOM)))
    (g_MOST_FLOW : PySem.W.nsIn K mainGlobals "MOST_FLOW" = some (some (.int 1000000000 tk_MOST_FLOW)))
    (g_MOST_SPAN : PySem.W.nsIn K mainGlobals "MOST_SPAN" = some (some (.int 1000000000000 tk_MOST_SPAN)))
    : ∃ fd : FuncData, (∀ (s : Shared) (v : Value), BindsTo s fd ⟨[v], []⟩ [("_law_script", v)]) ∧ ∀ base : Heap, K.In base → base.Ns mainGlobals mg → FnOk l.prog w K mg base (L2.CX l.prog w) 5 fa fd ["_law_script"] (toSp K DL.spLaw) := by
  have e := hfa.symm.trans (PySem.W.mg_of X G a12)
  cases e
  have T : Txt K mg ⟨aCGE, aCNB, aCB, aCJ, aCW⟩ := ⟨⟨pg_Jar, hd_Jar, po_Jar, sa_Jar⟩, na_Jar_size, na_Jar_flow, ⟨pg_Window, hd_Window, po_Window, sa_Window⟩, na_Window_most, na_Window_span, ic_Jar, im_Jar, ic_Window, im_Window, isn, ist, ⟨xq_GateError, PySem.W.mg_of X G n_GateError, xk_GateError, xb_GateError, xt_GateError⟩, ⟨eg_GateError, ek_GateError, xb_GateError, ed_GateError, ea_GateError, isn, ist, em_GateError⟩, ⟨xq_NoBound, PySem.W.mg_of X G n_NoBound, xk_NoBound, xb_NoBound, xt_NoBound⟩, ⟨eg_NoBound, ek_NoBound, xb_NoBound, ed_NoBound, ea_NoBound, isn, ist, em_NoBound⟩, PySem.W.exm_ref xb_GateError ed_GateError xt_GateError sub_NoBound_GateError, kit_Jar_Bound, kit_Window_Bound, kit_Jar_Jar, kit_Window_Jar, kit_NoBound_NoBound, PySem.W.mg_none_of X G m_len, PySem.W.mg_none_of X G m_isinstance, PySem.W.mg_none_of X G m_int, PySem.W.mg_none_of X G m_bool, PySem.W.mg_none_of X G m_range, PySem.W.mg_none_of X G m_max, ⟨_, .int _, PySem.W.mg_of X G g_MOST_ROOM, ⟨_, rfl⟩, .int _⟩, ⟨_, .int _, PySem.W.mg_of X G g_MOST_FLOW, ⟨_, rfl⟩, .int _⟩, ⟨_, .int _, PySem.W.mg_of X G g_MOST_SPAN, ⟨_, rfl⟩, .int _⟩, ⟨_, .ref _, PySem.W.mg_of X G n_NoBound, rfl, .obj _⟩, ⟨_, .ref _, PySem.W.mg_of X G n_Bound, rfl, .obj _⟩, ⟨_, .ref _, PySem.W.mg_of X G n_Jar, rfl, .obj _⟩⟩
  have F0 := fun_mk (st := s_need_number) l0 c0 k0
  have b0 := F0.binds (ps := ["thing", "least", "most"]) fun _ _ _ _ _ _ us hl => match us, hl with | [_, _, _], _ => rfl
  have F1 := fun_mk (st := s_Jar_init) l1 c1 k1
  have b1 := F1.binds (ps := ["self", "size", "flow"]) fun _ _ _ _ _ _ us hl => match us, hl with | [_, _, _], _ => rfl
  have F2 := fun_mk (st := s_Jar_room) l2 c2 k2
  have b2 := F2.binds (ps := ["self", "first", "last"]) fun _ _ _ _ _ _ us hl => match us, hl with | [_, _, _], _ => rfl
  have F3 := fun_mk (st := s_Window_init) l3 c3 k3
  have b3 := F3.binds (ps := ["self", "most", "span"]) fun _ _ _ _ _ _ us hl => match us, hl with | [_, _, _], _ => rfl
  have F4 := fun_mk (st := s_Window_room) l4 c4 k4
  have b4 := F4.binds (ps := ["self", "first", "last"]) fun _ _ _ _ _ _ us hl => match us, hl with | [_, _, _], _ => rfl
  have F5 := fun_mk (st := s__law_cell) l5 c5 k5
  have b5 := F5.binds (ps := ["_law_script", "_law_k"]) fun _ _ _ _ _ _ us hl => match us, hl with | [_, _], _ => rfl
  have F6 := fun_mk (st := s__law_number) l6 c6 k6
  have b6 := F6.binds (ps := ["_law_cell_here", "_law_most"]) fun _ _ _ _ _ _ us hl => match us, hl with | [_, _], _ => rfl
  have F7 := fun_mk (st := s__law_odd) l7 c7 k7
  have b7 := F7.binds (ps := ["_law_cell_here"]) fun _ _ _ _ _ _ us hl => match us, hl with | [_], _ => rfl
  have F8 := fun_mk (st := s__law_good) l8 c8 k8
  have b8 := F8.binds (ps := ["_law_one", "_law_other", "_law_most", "_law_least"]) fun _ _ _ _ _ _ us hl => match us, hl with | [_, _, _, _], _ => rfl
  have F9 := fun_mk (st := s__law_bound_of) l9 c9 k9
  have b9 := F9.binds (ps := ["_law_way", "_law_one", "_law_other"]) fun _ _ _ _ _ _ us hl => match us, hl with | [_, _, _], _ => rfl
  have F10 := fun_mk (st := s__law_same) l10 c10 k10
  have b10 := F10.binds (ps := ["_law_found", "_law_due"]) fun _ _ _ _ _ _ us hl => match us, hl with | [_, _], _ => rfl
  have F11 := fun_mk (st := s__law_rooms) l11 c11 k11
  have b11 := F11.binds (ps := ["_law_bound", "_law_way", "_law_one", "_law_other", "_law_cell_here"]) fun _ _ _ _ _ _ us hl => match us, hl with | [_, _, _, _, _], _ => rfl
  have F12 := fun_mk (st := s_law) l12 c12 k12
  refine ⟨PySem.W.fnOf "law" "law" (defArgs s_law) (defBody s_law) (defScope s_law) .none kV12 dc12 pm12 an12 cd12 ct12, fun s v => .of_eq rfl, fun base _ _ => ?_⟩
  have G0 := ok_need_number (Pg := l.prog) (w := w) (base := base) (A := ⟨aCGE, aCNB, aCB, aCJ, aCW⟩) F0 T
  have F_need_number : DCal l.prog w K mg base 1 "need_number" (S_need_number ⟨aCGE, aCNB, aCB, aCJ, aCW⟩) [] := ⟨_, dfn_of G0 b0, PySem.W.mg_of X G a0, k0⟩
  have G1 := ok_Jar_init (Pg := l.prog) (w := w) (base := base) (A := ⟨aCGE, aCNB, aCB, aCJ, aCW⟩) F1 T F_need_number
  have F_Jar : DMak l.prog w K mg base 2 "Jar" aCJ (S_Jar_init ⟨aCGE, aCNB, aCB, aCJ, aCW⟩) [] := ⟨_, dfn_of G1 b1, ⟨mk_Jar, a1_Jar, i1, kc_Jar⟩, PySem.W.mg_of X G n_Jar⟩
  have G2 := ok_Jar_room (Pg := l.prog) (w := w) (base := base) (A := ⟨aCGE, aCNB, aCB, aCJ, aCW⟩) F2 T
  have M_Jar_room : DMet l.prog w K mg base 1 aCJ "room" (S_Jar_room ⟨aCGE, aCNB, aCB, aCJ, aCW⟩) [] := ⟨_, dfn_of G2 b2, T.cl_Jar, ⟨a2_Jar, i2, k2⟩⟩
  have G3 := ok_Window_init (Pg := l.prog) (w := w) (base := base) (A := ⟨aCGE, aCNB, aCB, aCJ, aCW⟩) F3 T F_need_number
  have F_Window : DMak l.prog w K mg base 2 "Window" aCW (S_Window_init ⟨aCGE, aCNB, aCB, aCJ, aCW⟩) [] := ⟨_, dfn_of G3 b3, ⟨mk_Window, a3_Window, i3, kc_Window⟩, PySem.W.mg_of X G n_Window⟩
  have G4 := ok_Window_room (Pg := l.prog) (w := w) (base := base) (A := ⟨aCGE, aCNB, aCB, aCJ, aCW⟩) F4 T
  have M_Window_room : DMet l.prog w K mg base 1 aCW "room" (S_Window_room ⟨aCGE, aCNB, aCB, aCJ, aCW⟩) [] := ⟨_, dfn_of G4 b4, T.cl_Window, ⟨a4_Window, i4, k4⟩⟩
  have G5 := ok__law_cell (Pg := l.prog) (w := w) (base := base) (A := ⟨aCGE, aCNB, aCB, aCJ, aCW⟩) F5 T
  have F__law_cell : DCal l.prog w K mg base 1 "_law_cell" (S__law_cell ⟨aCGE, aCNB, aCB, aCJ, aCW⟩) [] := ⟨_, dfn_of G5 b5, PySem.W.mg_of X G a5, k5⟩
  have G6 := ok__law_number (Pg := l.prog) (w := w) (base := base) (A := ⟨aCGE, aCNB, aCB, aCJ, aCW⟩) F6 T
  have F__law_number : DCal l.prog w K mg base 1 "_law_number" (S__law_number ⟨aCGE, aCNB, aCB, aCJ, aCW⟩) [] := ⟨_, dfn_of G6 b6, PySem.W.mg_of X G a6, k6⟩
  have G7 := ok__law_odd (Pg := l.prog) (w := w) (base := base) (A := ⟨aCGE, aCNB, aCB, aCJ, aCW⟩) F7 T
  have F__law_odd : DCal l.prog w K mg base 1 "_law_odd" (S__law_odd ⟨aCGE, aCNB, aCB, aCJ, aCW⟩) [] := ⟨_, dfn_of G7 b7, PySem.W.mg_of X G a7, k7⟩
  have G8 := ok__law_good (Pg := l.prog) (w := w) (base := base) (A := ⟨aCGE, aCNB, aCB, aCJ, aCW⟩) F8 T
  have F__law_good : DCal l.prog w K mg base 1 "_law_good" (S__law_good ⟨aCGE, aCNB, aCB, aCJ, aCW⟩) [] := ⟨_, dfn_of G8 b8, PySem.W.mg_of X G a8, k8⟩
  have G9 := ok__law_bound_of (Pg := l.prog) (w := w) (base := base) (A := ⟨aCGE, aCNB, aCB, aCJ, aCW⟩) F9 T F_Window F_Jar
  have F__law_bound_of : DCal l.prog w K mg base 4 "_law_bound_of" (S__law_bound_of ⟨aCGE, aCNB, aCB, aCJ, aCW⟩) [] := ⟨_, dfn_of G9 b9, PySem.W.mg_of X G a9, k9⟩
  have G10 := ok__law_same (Pg := l.prog) (w := w) (base := base) (A := ⟨aCGE, aCNB, aCB, aCJ, aCW⟩) F10 T
  have F__law_same : DCal l.prog w K mg base 1 "_law_same" (S__law_same ⟨aCGE, aCNB, aCB, aCJ, aCW⟩) [] := ⟨_, dfn_of G10 b10, PySem.W.mg_of X G a10, k10⟩
  have G11 := ok__law_rooms (Pg := l.prog) (w := w) (base := base) (A := ⟨aCGE, aCNB, aCB, aCJ, aCW⟩) F11 T F__law_same M_Jar_room M_Window_room
  have F__law_rooms : DCal l.prog w K mg base 2 "_law_rooms" (S__law_rooms ⟨aCGE, aCNB, aCB, aCJ, aCW⟩) [] := ⟨_, dfn_of G11 b11, PySem.W.mg_of X G a11, k11⟩
  exact ok_law F12 T F__law_cell F__law_number F__law_bound_of F__law_odd F__law_good F__law_rooms
theorem walk {l : PySem.W.OpenLaw} {q : Program} {loose : List Str} {XP : (Str → Option Value) → Heap → Prop} {YP : World → Heap → Prop} {d : DefRec} {K : Params → PySem.W.Frag} (hn : l.most = some 63) (hdf : d.params.defaults = [])
    (hY : ∀ (w : World) (h : Heap), YP w h → (K w.params).In h)
    (F : ∀ (w : World) (mg : Str → Option Value) (fa : Addr) (h : Heap), (K w.params).In h → h.Ns mainGlobals mg → mg d.name = some (.ref fa) →
      ∃ fd : FuncData, (∀ (s : Shared) (u : Value), BindsTo s fd ⟨[u], []⟩ [("_law_script", u)]) ∧ ∀ base : Heap, (K w.params).In base → base.Ns mainGlobals mg → FnOk l.prog w (K w.params) mg base (L2.CX l.prog w) 5 fa fd ["_law_script"] (toSp (K w.params) DL.spLaw)) :
    PySem.W.WalkO q loose XP YP l.row.toRowW d [] (fun f vs => PySem.call f vs) :=
  L2.walk_of (n := 63) (k := 5) (x := "_law_script") (CX := fun w => L2.CX l.prog w) (sp := fun w => toSp (K w.params) DL.spLaw) hn (by decide) hdf ⟨rfl, by decide, by decide⟩ hY F (fun _ _ a ns hl _ hS => law_sp hl hS) fun w H s e s' h => law_CX H s e s' h
end TS

open PySem PySem.W PyProof.Rows in
set_option maxRecDepth 100000 in
set_option maxHeartbeats 0 in
theorem PySem.Challenge.cw_turnstile_k02_bounds_made_holds : PySem.Challenge.rw_turnstile_k02_bounds_made.Holds := by
  w_on; o_law; k_head; (case hw => w_witness2)
  k_fill
  refine TS.walk (l := PySem.Challenge.rw_turnstile_k02_bounds_made) rfl rfl (fun w h Y => PySem.W.kIn_of Y) ?F
  case F =>
    intro w mg fa h KX G hmg
    refine' TS.all_mk KX G hmg ?n_GateError ?n_NoBound ?n_Bound ?n_Jar ?n_Window ?a0 ?l0 ?c0 ?k0 ?a1_Jar ?i1 ?l1 ?c1 ?k1 ?a2_Jar ?i2 ?l2 ?c2 ?k2 ?a3_Window ?i3 ?l3 ?c3 ?k3 ?a4_Window ?i4 ?l4 ?c4 ?k4 ?a5 ?l5 ?c5 ?k5 ?a6 ?l6 ?c6 ?k6 ?a7 ?l7 ?c7 ?k7 ?a8 ?l8 ?c8 ?k8 ?a9 ?l9 ?c9 ?k9 ?a10 ?l10 ?c10 ?k10 ?a11 ?l11 ?c11 ?k11 ?a12 ?l12 ?c12 ?k12 ?mk_Jar ?kc_Jar ?mk_Window ?kc_Window ?pg_Jar ?hd_Jar ?po_Jar ?sa_Jar ?na_Jar_size ?na_Jar_flow ?pg_Window ?hd_Window ?po_Window ?sa_Window ?na_Window_most ?na_Window_span ?ic_Jar ?im_Jar ?ic_Window ?im_Window ?isn ?ist ?xq_GateError ?xk_GateError ?xb_GateError ?xt_GateError ?eg_GateError ?ek_GateError ?ed_GateError ?ea_GateError ?em_GateError ?xq_NoBound ?xk_NoBound ?xb_NoBound ?xt_NoBound ?eg_NoBound ?ek_NoBound ?ed_NoBound ?ea_NoBound ?em_NoBound ?sub_NoBound_GateError ?kit_Jar_Bound ?kit_Window_Bound ?kit_Jar_Jar ?kit_Window_Jar ?kit_NoBound_NoBound ?m_len ?m_isinstance ?m_int ?m_bool ?m_range ?m_max ?g_MOST_ROOM ?g_MOST_FLOW ?g_MOST_SPAN
    (case n_GateError => k_is)
    (case n_NoBound => k_is)
    (case n_Bound => k_is)
    (case n_Jar => k_is)
    (case n_Window => k_is)
    (case a0 => k_is)
    (case l0 => k_is)
    (case c0 => k_is)
    (case k0 => k_is)
    (case a1_Jar => k_is)
    (case i1 => k_is)
    (case l1 => k_is)
    (case c1 => k_is)
    (case k1 => k_is)
    (case a2_Jar => k_is)
    (case i2 => k_is)
    (case l2 => k_is)
    (case c2 => k_is)
    (case k2 => k_is)
    (case a3_Window => k_is)
    (case i3 => k_is)
    (case l3 => k_is)
    (case c3 => k_is)
    (case k3 => k_is)
    (case a4_Window => k_is)
    (case i4 => k_is)
    (case l4 => k_is)
    (case c4 => k_is)
    (case k4 => k_is)
    (case a5 => k_is)
    (case l5 => k_is)
    (case c5 => k_is)
    (case k5 => k_is)
    (case a6 => k_is)
    (case l6 => k_is)
    (case c6 => k_is)
    (case k6 => k_is)
    (case a7 => k_is)
    (case l7 => k_is)
    (case c7 => k_is)
    (case k7 => k_is)
    (case a8 => k_is)
    (case l8 => k_is)
    (case c8 => k_is)
    (case k8 => k_is)
    (case a9 => k_is)
    (case l9 => k_is)
    (case c9 => k_is)
    (case k9 => k_is)
    (case a10 => k_is)
    (case l10 => k_is)
    (case c10 => k_is)
    (case k10 => k_is)
    (case a11 => k_is)
    (case l11 => k_is)
    (case c11 => k_is)
    (case k11 => k_is)
    (case a12 => k_is)
    (case l12 => k_is)
    (case c12 => k_is)
    (case k12 => k_is)
    (case mk_Jar => k_is)
    (case kc_Jar => k_is)
    (case mk_Window => k_is)
    (case kc_Window => k_is)
    (case pg_Jar => k_is)
    (case hd_Jar => k_is)
    (case po_Jar => k_is)
    (case sa_Jar => k_is)
    (case na_Jar_size => k_is)
    (case na_Jar_flow => k_is)
    (case pg_Window => k_is)
    (case hd_Window => k_is)
    (case po_Window => k_is)
    (case sa_Window => k_is)
    (case na_Window_most => k_is)
    (case na_Window_span => k_is)
    (case ic_Jar => k_is)
    (case im_Jar => k_is)
    (case ic_Window => k_is)
    (case im_Window => k_is)
    (case isn => k_is)
    (case ist => k_is)
    (case xq_GateError => k_exc)
    (case xk_GateError => k_is)
    (case xb_GateError => k_is)
    (case xt_GateError => k_is)
    (case eg_GateError => k_is)
    (case ek_GateError => k_is)
    (case ed_GateError => k_is)
    (case ea_GateError => k_is)
    (case em_GateError => k_is)
    (case xq_NoBound => k_exc)
    (case xk_NoBound => k_is)
    (case xb_NoBound => k_is)
    (case xt_NoBound => k_is)
    (case eg_NoBound => k_is)
    (case ek_NoBound => k_is)
    (case ed_NoBound => k_is)
    (case ea_NoBound => k_is)
    (case em_NoBound => k_is)
    (case sub_NoBound_GateError => k_is)
    (case kit_Jar_Bound => kit_is)
    (case kit_Window_Bound => kit_is)
    (case kit_Jar_Jar => kit_is)
    (case kit_Window_Jar => kit_is)
    (case kit_NoBound_NoBound => kit_is)
    (case m_len => k_is)
    (case m_isinstance => k_is)
    (case m_int => k_is)
    (case m_bool => k_is)
    (case m_range => k_is)
    (case m_max => k_is)
    (case g_MOST_ROOM => k_is)
    (case g_MOST_FLOW => k_is)
    (case g_MOST_SPAN => k_is)

