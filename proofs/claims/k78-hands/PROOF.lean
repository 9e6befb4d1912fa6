import PyProof.Rows.All
import Wide.All
import OpenK.AllK
import Wide.FinOn
import HandS.ForMost
import HandS.ForExc
import HandS.Lambda
import HandS.EndTab
import HandS.TupAny
import HandS.Flow
import HandS.Deep
import HandS.CallSlots
import HandS.Style
import HandS.More
import HandS.SortInts
import HandS.SortRule
import HandS.IsInst
import HandS.Conv
import KE.OsArith
import KE.BitLaws
import KE.GoesEnum
import HandS.SetFor
import HandS.Strs
import HandS.DictComp
import HandS.TryMany
import PySem.Challenge.RW_tracetalk_k78_hands
set_option Elab.async false
set_option linter.all false
set_option maxRecDepth 100000
/-! Z1: own values, own heap, the relation to the abstract heap of HandS. -/
namespace Z
open PySem PySem.Spec L2

/-- a number that range takes; a place that pop takes -/
inductive R62 (j : Int) : Prop
  | mk (h : -(2 ^ 62) ≤ j ∧ j < 2 ^ 62)
inductive R63 (j : Int) : Prop
  | mk (h : -(2 ^ 63) ≤ j ∧ j < 2 ^ 63)
theorem R62.of {j : Int} : R62 j → -(2 ^ 62) ≤ j ∧ j < 2 ^ 62
  | .mk h => h
theorem R63.of {j : Int} : R63 j → -(2 ^ 63) ≤ j ∧ j < 2 ^ 63
  | .mk h => h
theorem r62 {n : Nat} (h : n ≤ 1000000) : R62 (n : Int) := by
  refine .mk ?_
  simp only [Int.reducePow]
  omega
theorem r62i {i : Int} (h : -1000000 ≤ i) (h2 : i ≤ 1000000) : R62 i := by
  refine .mk ?_
  simp only [Int.reducePow]
  omega
theorem r63 {n : Nat} (h : n ≤ 1000000) : R63 (n : Int) := by
  refine .mk ?_
  simp only [Int.reducePow]
  omega
/-- own values: frozen data as trees; ref: an object of the own heap -/
inductive D where
  | non | bl (b : Bool) | int (i : Int) | str (s : Str)
  | tup (ds : List D) | lst (ds : List D)
  | dK (kvs : List (Key × D)) | dT (kvs : List (List Key × D))
  | obj (c : Nat) (fs : List D)
  /-- the script: a list that is read alone -/
  | ro (ns : List Int)
  | ref (n : Nat)
/-- own mutable objects -/
inductive O where
  | lst (ds : List D) | dK (kvs : List (Key × D)) | dT (kvs : List (List Key × D))
  | ins (c : Nat) (fs : List D) | dead
  /-- a dict that is walked: read, not written -/
  | lkK (kvs : List (Key × D)) | lkT (kvs : List (List Key × D))
  /-- a table of code objects -/
  | tb (j : Nat)
/-- the program's classes: where they stand, their attributes' names in order -/
structure Cn where
  ad : Nat → Addr
  nm : Nat → List Str
  ro : Addr → List Int → Prop
  /-- the tables of code objects: where they stand, their codes' name -/
  tb : Nat → Addr × Str
/-- an expression's outcome: a value, or a new object that nobody else holds -/
inductive R where
  | v (d : D) | n (o : O)
abbrev Own := List O
abbrev Sl := List (Option D)
inductive Res (α : Type) where
  | ok (a : α) (h : Own) | exc (c : Nat) (h : Own) | stuck
namespace Res
def bind {α β : Type} (x : Res α) (f : α → Own → Res β) : Res β := match x with
  | ok a h => f a h
  | exc c h => exc c h
  | stuck => stuck
@[simp] theorem bind_ok {α β : Type} (a : α) (h : Own) (f : α → Own → Res β) : (Res.ok a h).bind f = f a h := rfl
@[simp] theorem bind_exc {α β : Type} (c : Nat) (h : Own) (f : α → Own → Res β) : (Res.exc c h : Res α).bind f = .exc c h := rfl
@[simp] theorem bind_stuck {α β : Type} (f : α → Own → Res β) : (Res.stuck : Res α).bind f = .stuck := rfl
end Res

section
variable (ca : Cn) (μ : List Addr) (F : Hp)
mutual
inductive VR : V → D → Prop where
  | non : VR .non .non
  | bl (b : Bool) : VR (.bl b) (.bl b)
  | int (i : Int) : VR (.int i) (.int i)
  | str (s : Str) : VR (.str s) (.str s)
  | tup {a : Addr} {vs : List V} {ds : List D} (e : F a = some (.tup vs)) (r : VRs vs ds) : VR (.ref a) (.tup ds)
  | lst {a : Addr} {vs : List V} {ds : List D} (e : F a = some (.lst vs)) (r : VRs vs ds) : VR (.ref a) (.lst ds)
  | dK {a : Addr} {kvs : List (Key × V)} {kds : List (Key × D)} (e : F a = some (.dK kvs)) (k : kvs.map (·.1) = kds.map (·.1)) (r : VRs (kvs.map (·.2)) (kds.map (·.2))) : VR (.ref a) (.dK kds)
  | dT {a : Addr} {kvs : List (List Key × V)} {kds : List (List Key × D)} (e : F a = some (.dT kvs)) (k : kvs.map (·.1) = kds.map (·.1)) (r : VRs (kvs.map (·.2)) (kds.map (·.2))) : VR (.ref a) (.dT kds)
  | obj {a dx : Addr} {c : Nat} {fs : List (Str × V)} {fds : List D} (e : F a = some (.ins (ca.ad c) dx fs)) (k : fs.map (·.1) = (ca.nm c).take fds.length) (r : VRs (fs.map (·.2)) fds) : VR (.ref a) (.obj c fds)
  | ro {a : Addr} {ns : List Int} (e : Rd F a (.lst (ns.map .int)) ∨ ca.ro a ns) : VR (.ref a) (.ro ns)
  | ref {a : Addr} {n : Nat} (e : μ[n]? = some a) : VR (.ref a) (.ref n)
inductive VRs : List V → List D → Prop where
  | nil : VRs [] []
  | cons {v : V} {d : D} {vs : List V} {ds : List D} (h : VR v d) (t : VRs vs ds) : VRs (v :: vs) (d :: ds)
end
end

section
variable {ca : Cn} {μ μ' : List Addr} {F F' : Hp}
mutual
theorem VR.mono (hm : ∀ (n : Nat) (a : Addr), μ[n]? = some a → μ'[n]? = some a) (hF : Same F F') : ∀ {v : V} {d : D}, VR ca μ F v d → VR ca μ' F' v d
  | _, _, .non => .non
  | _, _, .bl b => .bl b
  | _, _, .int i => .int i
  | _, _, .str s => .str s
  | _, _, .tup e r => .tup (hF _ _ e) (VRs.mono hm hF r)
  | _, _, .lst e r => .lst (hF _ _ e) (VRs.mono hm hF r)
  | _, _, .dK e k r => .dK (hF _ _ e) k (VRs.mono hm hF r)
  | _, _, .dT e k r => .dT (hF _ _ e) k (VRs.mono hm hF r)
  | _, _, .obj e k r => .obj (hF _ _ e) k (VRs.mono hm hF r)
  | _, _, .ref e => .ref (hm _ _ e)
  | _, _, .ro e => .ro (e.imp (fun z => z.imp (fun z => hF _ _ z) fun ⟨o, z⟩ => ⟨o, hF _ _ z⟩) fun z => z)
theorem VRs.mono (hm : ∀ (n : Nat) (a : Addr), μ[n]? = some a → μ'[n]? = some a) (hF : Same F F') : ∀ {vs : List V} {ds : List D}, VRs ca μ F vs ds → VRs ca μ' F' vs ds
  | _, _, .nil => .nil
  | _, _, .cons h t => .cons (VR.mono hm hF h) (VRs.mono hm hF t)
end
theorem VRs.length : ∀ {vs : List V} {ds : List D}, VRs ca μ F vs ds → vs.length = ds.length
  | _, _, .nil => rfl
  | _, _, .cons _ t => congrArg (· + 1) (VRs.length t)
theorem VRs.append : ∀ {vs ws : List V} {ds es : List D}, VRs ca μ F vs ds → VRs ca μ F ws es → VRs ca μ F (vs ++ ws) (ds ++ es)
  | _, _, _, _, .nil, s => s
  | _, _, _, _, .cons h t, s => .cons h (VRs.append t s)
theorem VRs.get : ∀ {vs : List V} {ds : List D} {i : Nat} {d : D}, VRs ca μ F vs ds → ds[i]? = some d → ∃ v, vs[i]? = some v ∧ VR ca μ F v d
  | _, _, _, _, .nil, e => by simp at e
  | _, _, 0, _, .cons h _, e => by simp at e; subst e; exact ⟨_, rfl, h⟩
  | _, _, i + 1, d, .cons _ t, e => by
    obtain ⟨v, h1, h2⟩ := VRs.get (i := i) (d := d) t (by simpa using e)
    exact ⟨v, by simpa using h1, h2⟩
theorem VRs.getV : ∀ {vs : List V} {ds : List D} {i : Nat} {v : V}, VRs ca μ F vs ds → vs[i]? = some v → ∃ d, ds[i]? = some d ∧ VR ca μ F v d
  | _, _, _, _, .nil, e => by simp at e
  | _, _, 0, _, .cons h _, e => by simp at e; subst e; exact ⟨_, rfl, h⟩
  | _, _, i + 1, v, .cons _ t, e => by
    obtain ⟨d, h1, h2⟩ := VRs.getV (i := i) (v := v) t (by simpa using e)
    exact ⟨d, by simpa using h1, h2⟩
theorem VRs.set : ∀ {vs : List V} {ds : List D} (i : Nat) {v : V} {d : D}, VRs ca μ F vs ds → VR ca μ F v d → VRs ca μ F (vs.set i v) (ds.set i d)
  | _, _, _, _, _, .nil, _ => .nil
  | _, _, 0, _, _, .cons _ t, r => .cons r t
  | _, _, i + 1, _, _, .cons h t, r => .cons h (VRs.set i t r)
theorem VRs.take : ∀ {vs : List V} {ds : List D} (n : Nat), VRs ca μ F vs ds → VRs ca μ F (vs.take n) (ds.take n)
  | _, _, 0, _ => .nil
  | _, _, _ + 1, .nil => .nil
  | _, _, n + 1, .cons h t => .cons h (VRs.take n t)
theorem VRs.drop : ∀ {vs : List V} {ds : List D} (n : Nat), VRs ca μ F vs ds → VRs ca μ F (vs.drop n) (ds.drop n)
  | _, _, 0, r => r
  | _, _, _ + 1, .nil => .nil
  | _, _, n + 1, .cons _ t => VRs.drop n t
theorem VRs.eraseIdx : ∀ {vs : List V} {ds : List D} (i : Nat), VRs ca μ F vs ds → VRs ca μ F (vs.eraseIdx i) (ds.eraseIdx i)
  | _, _, _, .nil => .nil
  | _, _, 0, .cons _ t => t
  | _, _, i + 1, .cons h t => .cons h (VRs.eraseIdx i t)
theorem VRs.reverse {vs : List V} {ds : List D} (h : VRs ca μ F vs ds) : VRs ca μ F vs.reverse ds.reverse := by
  induction vs generalizing ds with
  | nil => cases h; exact .nil
  | cons v vs ih =>
    cases h with
    | cons h t =>
      rw [List.reverse_cons, List.reverse_cons]
      exact (ih t).append (.cons h .nil)
theorem VRs.ints : ∀ {ns : List Int} {vs : List V}, VRs ca μ F vs (ns.map D.int) → vs = ns.map V.int
  | [], _, .nil => rfl
  | n :: ns, _, .cons h t => by
    cases h
    rw [VRs.ints (ns := ns) t]
    rfl
theorem VRs.of_ints : ∀ (ns : List Int), VRs ca μ F (ns.map V.int) (ns.map D.int)
  | [] => .nil
  | n :: ns => .cons (.int n) (VRs.of_ints ns)
theorem VRs.bls : ∀ {ns : List Bool} {vs : List V}, VRs ca μ F vs (ns.map D.bl) → vs = ns.map V.bl
  | [], _, .nil => rfl
  | n :: ns, _, .cons h t => by
    cases h
    rw [VRs.bls (ns := ns) t]
    rfl
end

/-- how the own object stands at its address -/
def OR (ca : Cn) (μ : List Addr) (F H : Hp) (a : Addr) : O → Prop
  | .lst ds => ∃ vs, H a = some (.lst vs) ∧ VRs ca μ F vs ds
  | .dK kds => ∃ kvs : List (Key × V), H a = some (.dK kvs) ∧ kvs.map (·.1) = kds.map (·.1) ∧ VRs ca μ F (kvs.map (·.2)) (kds.map (·.2))
  | .dT kds => ∃ kvs : List (List Key × V), H a = some (.dT kvs) ∧ kvs.map (·.1) = kds.map (·.1) ∧ VRs ca μ F (kvs.map (·.2)) (kds.map (·.2))
  | .ins c fds => ∃ (dx : Addr) (fs : List (Str × V)), H a = some (.ins (ca.ad c) dx fs) ∧ fs.map (·.1) = (ca.nm c).take fds.length ∧ VRs ca μ F (fs.map (·.2)) fds
  | .dead => True
  | .lkK kds => ∃ (od : Obj) (kvs : List (Key × V)), H a = some (.frz od (.dK kvs)) ∧ kvs.map (·.1) = kds.map (·.1) ∧ VRs ca μ F (kvs.map (·.2)) (kds.map (·.2))
  | .lkT kds => ∃ (od : Obj) (kvs : List (List Key × V)), H a = some (.frz od (.dT kvs)) ∧ kvs.map (·.1) = kds.map (·.1) ∧ VRs ca μ F (kvs.map (·.2)) (kds.map (·.2))
  | .tb j => a = (ca.tb j).1 ∧ ∃ ps : Array Value, H a = some (.tbl ps) ∧ TriplesOk ps.toList ∧ ∀ (pos : Pos) (cv : Value), codeAmong pos ps.toList = some cv → ∃ c, cv = .ref c ∧ F c = some (LamX.CodeO c (ca.tb j).2)
theorem OR.mono {ca : Cn} {μ μ' : List Addr} {F F' H H' : Hp} {a : Addr} (hm : ∀ (n : Nat) (a : Addr), μ[n]? = some a → μ'[n]? = some a) (hF : Same F F') (hH : ∀ o, H a = some o → H' a = some o) : ∀ {o : O}, OR ca μ F H a o → OR ca μ' F' H' a o
  | .lst _, ⟨vs, e, r⟩ => ⟨vs, hH _ e, r.mono hm hF⟩
  | .dK _, ⟨vs, e, k, r⟩ => ⟨vs, hH _ e, k, r.mono hm hF⟩
  | .dT _, ⟨vs, e, k, r⟩ => ⟨vs, hH _ e, k, r.mono hm hF⟩
  | .ins _ _, ⟨dx, vs, e, k, r⟩ => ⟨dx, vs, hH _ e, k, r.mono hm hF⟩
  | .dead, _ => True.intro
  | .lkK _, ⟨od, vs, e, k, r⟩ => ⟨od, vs, hH _ e, k, r.mono hm hF⟩
  | .lkT _, ⟨od, vs, e, k, r⟩ => ⟨od, vs, hH _ e, k, r.mono hm hF⟩
  | .tb _, ⟨e0, ps, e, k, r⟩ => ⟨e0, ps, hH _ e, k, fun pos cv h => let ⟨c, e1, e2⟩ := r pos cv h; ⟨c, e1, hF _ _ e2⟩⟩

/-! no refs within -/
mutual
def nrf : D → Bool
  | .tup ds => nrfs ds
  | .lst ds => nrfs ds
  | .dK kvs => nrfK kvs
  | .dT kvs => nrfT kvs
  | .obj _ fs => nrfs fs
  | .ref _ => false
  | .non => true
  | .bl _ => true
  | .int _ => true
  | .str _ => true
  | .ro _ => true
def nrfs : List D → Bool
  | [] => true
  | d :: ds => nrf d && nrfs ds
def nrfK : List (Key × D) → Bool
  | [] => true
  | (_, d) :: ds => nrf d && nrfK ds
def nrfT : List (List Key × D) → Bool
  | [] => true
  | (_, d) :: ds => nrf d && nrfT ds
end
theorem nrfs_all : ∀ ds : List D, nrfs ds = ds.all nrf
  | [] => rfl
  | d :: ds => by rw [nrfs, nrfs_all ds]; rfl
theorem nrfK_all : ∀ ds : List (Key × D), nrfK ds = (ds.map (·.2)).all nrf
  | [] => rfl
  | (_, d) :: ds => by rw [nrfK, nrfK_all ds]; rfl
theorem nrfT_all : ∀ ds : List (List Key × D), nrfT ds = (ds.map (·.2)).all nrf
  | [] => rfl
  | (_, d) :: ds => by rw [nrfT, nrfT_all ds]; rfl
def nrfO : O → Bool
  | .lst ds => nrfs ds
  | .dK kvs => nrfK kvs
  | .dT kvs => nrfT kvs
  | .ins _ fs => nrfs fs
  | .dead => true
  | .lkK kvs => nrfK kvs
  | .lkT kvs => nrfT kvs
  | .tb _ => true
/-! the refs within -/
mutual
def refs : D → List Nat
  | .tup ds => refss ds
  | .lst ds => refss ds
  | .dK kvs => refsK kvs
  | .dT kvs => refsT kvs
  | .obj _ fs => refss fs
  | .ref n => [n]
  | .non => []
  | .bl _ => []
  | .int _ => []
  | .str _ => []
  | .ro _ => []
def refss : List D → List Nat
  | [] => []
  | d :: ds => refs d ++ refss ds
def refsK : List (Key × D) → List Nat
  | [] => []
  | (_, d) :: ds => refs d ++ refsK ds
def refsT : List (List Key × D) → List Nat
  | [] => []
  | (_, d) :: ds => refs d ++ refsT ds
end
theorem refsK_all : ∀ ds : List (Key × D), refsK ds = refss (ds.map (·.2))
  | [] => rfl
  | (_, d) :: ds => by rw [refsK, refsK_all ds]; rfl
theorem refsT_all : ∀ ds : List (List Key × D), refsT ds = refss (ds.map (·.2))
  | [] => rfl
  | (_, d) :: ds => by rw [refsT, refsT_all ds]; rfl
mutual
theorem refs_nil : ∀ d : D, refs d = [] → nrf d = true
  | .tup ds, h => by rw [nrf]; rw [refs] at h; exact refss_nil ds h
  | .lst ds, h => by rw [nrf]; rw [refs] at h; exact refss_nil ds h
  | .dK ds, h => by rw [nrf]; rw [refs] at h; exact refsK_nil ds h
  | .dT ds, h => by rw [nrf]; rw [refs] at h; exact refsT_nil ds h
  | .obj _ ds, h => by rw [nrf]; rw [refs] at h; exact refss_nil ds h
  | .ref _, h => by rw [refs] at h; cases h
  | .non, _ => rfl
  | .bl _, _ => rfl
  | .int _, _ => rfl
  | .str _, _ => rfl
  | .ro _, _ => rfl
theorem refss_nil : ∀ ds : List D, refss ds = [] → nrfs ds = true
  | [], _ => rfl
  | d :: ds, h => by
    rw [refss, List.append_eq_nil_iff] at h
    rw [nrfs, refs_nil d h.1, refss_nil ds h.2]
    rfl
theorem refsK_nil : ∀ ds : List (Key × D), refsK ds = [] → nrfK ds = true
  | [], _ => rfl
  | (_, d) :: ds, h => by
    rw [refsK, List.append_eq_nil_iff] at h
    rw [nrfK, refs_nil d h.1, refsK_nil ds h.2]
    rfl
theorem refsT_nil : ∀ ds : List (List Key × D), refsT ds = [] → nrfT ds = true
  | [], _ => rfl
  | (_, d) :: ds, h => by
    rw [refsT, List.append_eq_nil_iff] at h
    rw [nrfT, refs_nil d h.1, refsT_nil ds h.2]
    rfl
end
mutual
theorem nil_refs : ∀ d : D, nrf d = true → refs d = []
  | .tup ds, h => by rw [nrf] at h; rw [refs]; exact nil_refss ds h
  | .lst ds, h => by rw [nrf] at h; rw [refs]; exact nil_refss ds h
  | .dK ds, h => by rw [nrf] at h; rw [refs]; exact nil_refsK ds h
  | .dT ds, h => by rw [nrf] at h; rw [refs]; exact nil_refsT ds h
  | .obj _ ds, h => by rw [nrf] at h; rw [refs]; exact nil_refss ds h
  | .ref _, h => by rw [nrf] at h; cases h
  | .non, _ => rfl
  | .bl _, _ => rfl
  | .int _, _ => rfl
  | .str _, _ => rfl
  | .ro _, _ => rfl
theorem nil_refss : ∀ ds : List D, nrfs ds = true → refss ds = []
  | [], _ => rfl
  | d :: ds, h => by
    rw [nrfs, Bool.and_eq_true] at h
    rw [refss, nil_refs d h.1, nil_refss ds h.2]
    rfl
theorem nil_refsK : ∀ ds : List (Key × D), nrfK ds = true → refsK ds = []
  | [], _ => rfl
  | (_, d) :: ds, h => by
    rw [nrfK, Bool.and_eq_true] at h
    rw [refsK, nil_refs d h.1, nil_refsK ds h.2]
    rfl
theorem nil_refsT : ∀ ds : List (List Key × D), nrfT ds = true → refsT ds = []
  | [], _ => rfl
  | (_, d) :: ds, h => by
    rw [nrfT, Bool.and_eq_true] at h
    rw [refsT, nil_refs d h.1, nil_refsT ds h.2]
    rfl
end
def refsO : O → List Nat
  | .lst ds => refss ds
  | .dK kvs => refsK kvs
  | .dT kvs => refsT kvs
  | .ins _ fs => refss fs
  | .dead => []
  | .lkK kvs => refsK kvs
  | .lkT kvs => refsT kvs
  | .tb _ => []
theorem refsO_nil : ∀ {o : O}, refsO o = [] → nrfO o = true
  | .lst _, h => refss_nil _ h
  | .dK _, h => refsK_nil _ h
  | .dT _, h => refsT_nil _ h
  | .ins _ _, h => refss_nil _ h
  | .dead, _ => rfl
  | .lkK _, h => refsK_nil _ h
  | .lkT _, h => refsT_nil _ h
  | .tb _, _ => rfl
theorem nil_refsO : ∀ {o : O}, nrfO o = true → refsO o = []
  | .lst _, h => nil_refss _ h
  | .dK _, h => nil_refsK _ h
  | .dT _, h => nil_refsT _ h
  | .ins _ _, h => nil_refss _ h
  | .dead, _ => rfl
  | .lkK _, h => nil_refsK _ h
  | .lkT _, h => nil_refsT _ h
  | .tb _, _ => rfl
/-- o holds no ref that o0 does not hold -/
def subR (o o0 : O) : Bool := (refsO o).all fun r => (refsO o0).contains r
theorem subR_iff {o o0 : O} : subR o o0 = true ↔ ∀ r ∈ refsO o, r ∈ refsO o0 := by
  unfold subR
  simp
/-- what a callee may make of an object at k -/
def KeepR (h : Own) (k : Nat) (o : O) : Prop := h[k]? = some o ∨ nrfO o = true ∨ ∃ o0, h[k]? = some o0 ∧ subR o o0 = true
theorem KeepR.sub {h : Own} {k : Nat} {o o1 : O} (a : KeepR h k o1) (s : subR o o1 = true) : KeepR h k o := by
  rcases a with z | z | ⟨o0, z, q⟩
  · exact .inr (.inr ⟨_, z, s⟩)
  · refine .inr (.inl (refsO_nil ?_))
    rw [subR_iff, nil_refsO z] at s
    cases e : refsO o with
    | nil => rfl
    | cons a l => exact absurd (s a (by rw [e]; exact List.mem_cons_self ..)) List.not_mem_nil
  · refine .inr (.inr ⟨_, z, ?_⟩)
    rw [subR_iff] at s q ⊢
    exact fun r hr => q r (s r hr)
theorem KeepR.trans {h h1 : Own} {k : Nat} {o : O} (c : KeepR h1 k o) (a : ∀ o, h1[k]? = some o → KeepR h k o) : KeepR h k o := by
  rcases c with z | z | ⟨o0, z, q⟩
  · exact a o z
  · exact .inr (.inl z)
  · exact (a _ z).sub q
/-- what nobody changes -/
def stb : O → Bool
  | .dead => true
  | .lkK _ => true
  | .lkT _ => true
  | _ => false
section
variable {ca : Cn} {μ μ' : List Addr} {F : Hp}
mutual
theorem VR.nrf : ∀ {v : V} {d : D}, VR ca μ F v d → nrf d = true → VR ca μ' F v d
  | _, _, .non, _ => .non
  | _, _, .bl b, _ => .bl b
  | _, _, .int i, _ => .int i
  | _, _, .str s, _ => .str s
  | _, _, .tup e r, q => .tup e (VRs.nrf r (by rw [Z.nrf, nrfs_all] at q; exact q))
  | _, _, .lst e r, q => .lst e (VRs.nrf r (by rw [Z.nrf, nrfs_all] at q; exact q))
  | _, _, .dK e k r, q => .dK e k (VRs.nrf r (by rw [Z.nrf, nrfK_all] at q; exact q))
  | _, _, .dT e k r, q => .dT e k (VRs.nrf r (by rw [Z.nrf, nrfT_all] at q; exact q))
  | _, _, .obj e k r, q => .obj e k (VRs.nrf r (by rw [Z.nrf, nrfs_all] at q; exact q))
  | _, _, .ref e, q => by rw [Z.nrf] at q; cases q
  | _, _, .ro e, _ => .ro e
theorem VRs.nrf : ∀ {vs : List V} {ds : List D}, VRs ca μ F vs ds → ds.all Z.nrf = true → VRs ca μ' F vs ds
  | _, _, .nil, _ => .nil
  | _, _, .cons h t, q => .cons (VR.nrf h (by rw [List.all_cons, Bool.and_eq_true] at q; exact q.1)) (VRs.nrf t (by rw [List.all_cons, Bool.and_eq_true] at q; exact q.2))
end
theorem OR.nrf {H : Hp} {a : Addr} : ∀ {o : O}, OR ca μ F H a o → nrfO o = true → OR ca μ' F H a o
  | .lst _, ⟨vs, e, r⟩, q => ⟨vs, e, r.nrf (by rw [nrfO, nrfs_all] at q; exact q)⟩
  | .dK _, ⟨vs, e, k, r⟩, q => ⟨vs, e, k, r.nrf (by rw [nrfO, nrfK_all] at q; exact q)⟩
  | .dT _, ⟨vs, e, k, r⟩, q => ⟨vs, e, k, r.nrf (by rw [nrfO, nrfT_all] at q; exact q)⟩
  | .ins _ _, ⟨dx, vs, e, k, r⟩, q => ⟨dx, vs, e, k, r.nrf (by rw [nrfO, nrfs_all] at q; exact q)⟩
  | .dead, _, _ => True.intro
  | .lkK _, ⟨od, vs, e, k, r⟩, q => ⟨od, vs, e, k, r.nrf (by rw [nrfO, nrfK_all] at q; exact q)⟩
  | .lkT _, ⟨od, vs, e, k, r⟩, q => ⟨od, vs, e, k, r.nrf (by rw [nrfO, nrfT_all] at q; exact q)⟩
  | .tb _, r, _ => r
-- what was related ahead keeps to the old addresses
variable {m : List Addr} {F0 : Hp}
mutual
theorem VR.back (hm : μ' = μ ++ m) : ∀ {v w : V} {d : D}, VR ca μ F0 w d → VR ca μ' F v d → VR ca μ F v d
  | _, _, _, .non, .non => .non
  | _, _, _, .bl b, .bl _ => .bl b
  | _, _, _, .int i, .int _ => .int i
  | _, _, _, .str s, .str _ => .str s
  | _, _, _, .tup _ r0, .tup e r => .tup e (VRs.back hm r0 r)
  | _, _, _, .lst _ r0, .lst e r => .lst e (VRs.back hm r0 r)
  | _, _, _, .dK _ _ r0, .dK e k r => .dK e k (VRs.back hm r0 r)
  | _, _, _, .dT _ _ r0, .dT e k r => .dT e k (VRs.back hm r0 r)
  | _, _, _, .obj _ _ r0, .obj e k r => .obj e k (VRs.back hm r0 r)
  | _, _, _, .ref e0, .ref e => .ref (by
      subst hm
      rw [List.getElem?_append_left (List.getElem?_eq_some_iff.mp e0).1] at e
      exact e)
  | _, _, _, .ro _, .ro e => .ro e
theorem VRs.back (hm : μ' = μ ++ m) : ∀ {vs ws : List V} {ds : List D}, VRs ca μ F0 ws ds → VRs ca μ' F vs ds → VRs ca μ F vs ds
  | _, _, _, .nil, .nil => .nil
  | _, _, _, .cons h0 t0, .cons h t => .cons (VR.back hm h0 h) (VRs.back hm t0 t)
end
theorem OR.back {H0 H : Hp} {a b : Addr} (hm : μ' = μ ++ m) : ∀ {o : O}, OR ca μ F0 H0 b o → OR ca μ' F H a o → OR ca μ F H a o
  | .lst _, ⟨_, _, r0⟩, ⟨vs, e, r⟩ => ⟨vs, e, r0.back hm r⟩
  | .dK _, ⟨_, _, _, r0⟩, ⟨vs, e, k, r⟩ => ⟨vs, e, k, r0.back hm r⟩
  | .dT _, ⟨_, _, _, r0⟩, ⟨vs, e, k, r⟩ => ⟨vs, e, k, r0.back hm r⟩
  | .ins _ _, ⟨_, _, _, _, r0⟩, ⟨dx, vs, e, k, r⟩ => ⟨dx, vs, e, k, r0.back hm r⟩
  | .dead, _, _ => True.intro
  | .lkK _, ⟨_, _, _, _, r0⟩, ⟨od, vs, e, k, r⟩ => ⟨od, vs, e, k, r0.back hm r⟩
  | .lkT _, ⟨_, _, _, _, r0⟩, ⟨od, vs, e, k, r⟩ => ⟨od, vs, e, k, r0.back hm r⟩
  | .tb _, _, r => r
-- all its refs are old
mutual
theorem VR.old (hm : μ' = μ ++ m) : ∀ {v : V} {d : D}, VR ca μ' F v d → (∀ r ∈ refs d, r < μ.length) → VR ca μ F v d
  | _, _, .non, _ => .non
  | _, _, .bl b, _ => .bl b
  | _, _, .int i, _ => .int i
  | _, _, .str s, _ => .str s
  | _, _, .tup e r, q => .tup e (VRs.old hm r (by rw [refs] at q; exact q))
  | _, _, .lst e r, q => .lst e (VRs.old hm r (by rw [refs] at q; exact q))
  | _, _, .dK e k r, q => .dK e k (VRs.old hm r (by rw [refs, refsK_all] at q; exact q))
  | _, _, .dT e k r, q => .dT e k (VRs.old hm r (by rw [refs, refsT_all] at q; exact q))
  | _, _, .obj e k r, q => .obj e k (VRs.old hm r (by rw [refs] at q; exact q))
  | _, _, .ref (n := n) e, q => .ref (by
      subst hm
      rw [List.getElem?_append_left (q n (by rw [refs]; exact List.mem_singleton.mpr rfl))] at e
      exact e)
  | _, _, .ro e, _ => .ro e
theorem VRs.old (hm : μ' = μ ++ m) : ∀ {vs : List V} {ds : List D}, VRs ca μ' F vs ds → (∀ r ∈ refss ds, r < μ.length) → VRs ca μ F vs ds
  | _, _, .nil, _ => .nil
  | _, _, .cons h t, q => .cons (VR.old hm h fun r hr => q r (by rw [refss]; exact List.mem_append_left _ hr)) (VRs.old hm t fun r hr => q r (by rw [refss]; exact List.mem_append_right _ hr))
end
mutual
theorem VR.refs : ∀ {v : V} {d : D}, VR ca μ F v d → ∀ r ∈ refs d, r < μ.length
  | _, _, .non, r, h => by rw [Z.refs] at h; cases h
  | _, _, .bl b, r, h => by rw [Z.refs] at h; cases h
  | _, _, .int i, r, h => by rw [Z.refs] at h; cases h
  | _, _, .str s, r, h => by rw [Z.refs] at h; cases h
  | _, _, .tup e q, r, h => VRs.refs q r (by rw [Z.refs] at h; exact h)
  | _, _, .lst e q, r, h => VRs.refs q r (by rw [Z.refs] at h; exact h)
  | _, _, .dK e k q, r, h => VRs.refs q r (by rw [Z.refs, refsK_all] at h; exact h)
  | _, _, .dT e k q, r, h => VRs.refs q r (by rw [Z.refs, refsT_all] at h; exact h)
  | _, _, .obj e k q, r, h => VRs.refs q r (by rw [Z.refs] at h; exact h)
  | _, _, .ref e, r, h => by
      rw [Z.refs] at h
      rw [List.mem_singleton.mp h]
      exact (List.getElem?_eq_some_iff.mp e).1
  | _, _, .ro e, r, h => by rw [Z.refs] at h; cases h
theorem VRs.refs : ∀ {vs : List V} {ds : List D}, VRs ca μ F vs ds → ∀ r ∈ refss ds, r < μ.length
  | _, _, .nil, r, h => by rw [refss] at h; cases h
  | _, _, .cons q t, r, h => by
    rw [refss] at h
    rcases List.mem_append.mp h with z | z
    · exact VR.refs q r z
    · exact VRs.refs t r z
end
theorem OR.old {H : Hp} {a : Addr} (hm : μ' = μ ++ m) : ∀ {o : O}, OR ca μ' F H a o → (∀ r ∈ refsO o, r < μ.length) → OR ca μ F H a o
  | .lst _, ⟨vs, e, r⟩, q => ⟨vs, e, r.old hm q⟩
  | .dK _, ⟨vs, e, k, r⟩, q => ⟨vs, e, k, r.old hm (by rw [refsO, refsK_all] at q; exact q)⟩
  | .dT _, ⟨vs, e, k, r⟩, q => ⟨vs, e, k, r.old hm (by rw [refsO, refsT_all] at q; exact q)⟩
  | .ins _ _, ⟨dx, vs, e, k, r⟩, q => ⟨dx, vs, e, k, r.old hm q⟩
  | .dead, _, _ => True.intro
  | .lkK _, ⟨od, vs, e, k, r⟩, q => ⟨od, vs, e, k, r.old hm (by rw [refsO, refsK_all] at q; exact q)⟩
  | .lkT _, ⟨od, vs, e, k, r⟩, q => ⟨od, vs, e, k, r.old hm (by rw [refsO, refsT_all] at q; exact q)⟩
  | .tb _, r, _ => r
theorem OR.refs {H : Hp} {a : Addr} : ∀ {o : O}, OR ca μ F H a o → ∀ r ∈ refsO o, r < μ.length
  | .lst _, ⟨vs, e, q⟩, r, h => q.refs r h
  | .dK _, ⟨vs, e, k, q⟩, r, h => q.refs r (by rw [refsO, refsK_all] at h; exact h)
  | .dT _, ⟨vs, e, k, q⟩, r, h => q.refs r (by rw [refsO, refsT_all] at h; exact h)
  | .ins _ _, ⟨dx, vs, e, k, q⟩, r, h => q.refs r h
  | .dead, _, r, h => by rw [refsO] at h; cases h
  | .lkK _, ⟨od, vs, e, k, q⟩, r, h => q.refs r (by rw [refsO, refsK_all] at h; exact h)
  | .lkT _, ⟨od, vs, e, k, q⟩, r, h => q.refs r (by rw [refsO, refsT_all] at h; exact h)
  | .tb _, _, r, h => by rw [refsO] at h; cases h
end

/-- the own heap h stands within H: own objects at μ, frozen data in F -/
structure RelH (ca : Cn) (μ : List Addr) (F : Hp) (h : Own) (H : Hp) : Prop where
  len : μ.length = h.length
  nd : μ.Nodup
  fz : Same F H
  sep : ∀ (n : Nat) (a : Addr) (o : O), μ[n]? = some a → h[n]? = some o → o ≠ .dead → F a = none
  dom : ∀ a ∈ μ, H a ≠ none
  ob : ∀ (n : Nat) (a : Addr) (o : O), μ[n]? = some a → h[n]? = some o → OR ca μ F H a o
/-- what a step of a frame with the base b may do to the rest -/
structure Ext (b : Nat) (μ : List Addr) (F H : Hp) (h : Own) (μ' : List Addr) (F' H' : Hp) (h' : Own) : Prop where
  pre : ∃ m, μ' = μ ++ m ∧ ∀ a ∈ m, H a = none
  fz : Same F F'
  frame : ∀ a o, H a = some o → a ∉ μ → H' a = some o
  dom : ∀ a, H a ≠ none → H' a ≠ none
  newF : ∀ a, F' a ≠ none → F a ≠ none ∨ a ∈ μ ∨ H a = none ∨ (∃ xs, H a = some (.tup xs)) ∨ ∃ q, H a = some (LamX.CodeO a q)
  keep : ∀ (k : Nat) (o : O), k < b → h'[k]? = some o → KeepR h k o
  st : ∀ (n : Nat) (a : Addr) (o : O), μ[n]? = some a → h[n]? = some o → stb o = true → h'[n]? = some o ∧ ∀ u, H a = some u → H' a = some u
/-- a frame: the own heap's size at its start, its slots -/
structure Fm where
  b : Nat
  s : Sl
def SR (ca : Cn) (μ : List Addr) (F : Hp) (τ : Sl) (σ : L2.St) : Prop := τ.length = σ.length ∧ ∀ (i : Nat) (d : D), τ[i]? = some (some d) → ∃ v, σ[i]? = some (some v) ∧ VR ca μ F v d
/-- an outcome; H0: the heap ahead of the expression -/
def RR (ca : Cn) (μ : List Addr) (F H0 H : Hp) (v : V) : R → Prop
  | .v d => VR ca μ F v d
  | .n o => ∃ a, v = .ref a ∧ H0 a = none ∧ H a ≠ none ∧ a ∉ μ ∧ F a = none ∧ OR ca μ F H a o

section
variable {b : Nat} {ca : Cn} {μ μ1 μ2 : List Addr} {F F1 F2 H H1 H2 : Hp} {h h1 h2 : Own}
theorem Ext.refl : Ext b μ F H h μ F H h := ⟨⟨[], by simp, by simp⟩, Same.refl _, fun _ _ e _ => e, fun _ e => e, fun _ e => .inl e, fun _ _ _ e => .inl e, fun _ _ _ _ e _ => ⟨e, fun _ z => z⟩⟩
theorem Ext.fresh (a : Ext b μ F H h μ1 F1 H1 h1) {x : Addr} (q : H1 x = none) : H x = none := by
  cases e : H x with
  | none => rfl
  | some o => exact absurd q (a.dom x (by rw [e]; simp))
theorem Ext.trans (a : Ext b μ F H h μ1 F1 H1 h1) (c : Ext b μ1 F1 H1 h1 μ2 F2 H2 h2) : Ext b μ F H h μ2 F2 H2 h2 := by
  obtain ⟨m1, e1, n1⟩ := a.pre
  obtain ⟨m2, e2, n2⟩ := c.pre
  have back : ∀ x, H1 x = none → H x = none := fun x q => a.fresh q
  refine ⟨⟨m1 ++ m2, by rw [e2, e1, List.append_assoc], fun x hx => ?_⟩, a.fz.trans c.fz, fun x o e hx => ?_, fun x e => c.dom x (a.dom x e), fun x e => ?_, fun k o hk e => ?_, fun n x o e1' e2' e3' => ?_⟩
  · rcases List.mem_append.mp hx with z | z
    · exact n1 x z
    · exact back x (n2 x z)
  · refine c.frame x o (a.frame x o e hx) fun z => ?_
    rw [e1] at z
    rcases List.mem_append.mp z with z | z
    · exact hx z
    · rw [n1 x z] at e; cases e
  · rcases c.newF x e with z | z | z | ⟨xs, z⟩ | ⟨xs, z⟩
    · exact a.newF x z
    · rw [e1] at z
      rcases List.mem_append.mp z with z | z
      · exact .inr (.inl z)
      · exact .inr (.inr (.inl (n1 x z)))
    · exact .inr (.inr (.inl (back x z)))
    · cases q : H x with
      | none => exact .inr (.inr (.inl rfl))
      | some u =>
        by_cases hm : x ∈ μ
        · exact .inr (.inl hm)
        · have := a.frame x u q hm
          rw [this] at z
          cases z
          exact .inr (.inr (.inr (.inl ⟨xs, rfl⟩)))
    · cases q : H x with
      | none => exact .inr (.inr (.inl rfl))
      | some u =>
        by_cases hm : x ∈ μ
        · exact .inr (.inl hm)
        · have := a.frame x u q hm
          rw [this] at z
          cases z
          exact .inr (.inr (.inr (.inr ⟨xs, rfl⟩)))
  · exact (c.keep k o hk e).trans fun o' e' => a.keep k o' hk e'
  · obtain ⟨w1, w2⟩ := a.st n x o e1' e2' e3'
    have e1'' : μ1[n]? = some x := by
      rw [e1, List.getElem?_append_left (List.getElem?_eq_some_iff.mp e1').1]
      exact e1'
    obtain ⟨w3, w4⟩ := c.st n x o e1'' w1 e3'
    exact ⟨w3, fun u z => w4 u (w2 u z)⟩
theorem Ext.ix (e : Ext b μ F H h μ1 F1 H1 h1) : ∀ (n : Nat) (a : Addr), μ[n]? = some a → μ1[n]? = some a := by
  intro n a q
  obtain ⟨m, e, _⟩ := e.pre
  subst e
  rw [List.getElem?_append_left (List.getElem?_eq_some_iff.mp q).1]
  exact q
theorem Ext.vr (e : Ext b μ F H h μ1 F1 H1 h1) {v : V} {d : D} (r : VR ca μ F v d) : VR ca μ1 F1 v d := r.mono e.ix e.fz
theorem Ext.vrs (e : Ext b μ F H h μ1 F1 H1 h1) {v : List V} {d : List D} (r : VRs ca μ F v d) : VRs ca μ1 F1 v d := r.mono e.ix e.fz
theorem Ext.sr (e : Ext b μ F H h μ1 F1 H1 h1) {τ : Sl} {σ : L2.St} (s : SR ca μ F τ σ) : SR ca μ1 F1 τ σ := ⟨s.1, fun i d q => let ⟨v, a, b⟩ := s.2 i d q; ⟨v, a, e.vr b⟩⟩
theorem Ext.len (e : Ext b μ F H h μ1 F1 H1 h1) (r : RelH ca μ F h H) (r1 : RelH ca μ1 F1 h1 H1) : h.length ≤ h1.length := by
  obtain ⟨m, e, _⟩ := e.pre
  rw [← r.len, ← r1.len, e, List.length_append]
  omega
theorem RR.back (e : Ext b μ F H h μ1 F1 H1 h1) {μ' : List Addr} {F' H' : Hp} {v : V} : ∀ {r : R}, RR ca μ' F' H1 H' v r → RR ca μ' F' H H' v r
  | .v _, r => r
  | .n _, ⟨a, e1, e2, e3⟩ => ⟨a, e1, e.fresh e2, e3⟩
theorem SR.set {τ : Sl} {σ : L2.St} (s : SR ca μ F τ σ) (i : Nat) {v : V} {d : D} (r : VR ca μ F v d) : SR ca μ F (τ.set i (some d)) (σ.set i (some v)) := by
  refine ⟨by simp [s.1], fun j d' q => ?_⟩
  by_cases hj : i = j
  · subst hj
    have hl : i < τ.length := by
      have := (List.getElem?_eq_some_iff.mp q).1
      simpa using this
    rw [List.getElem?_set_self hl] at q
    cases q
    exact ⟨v, List.getElem?_set_self (by rw [← s.1]; exact hl), r⟩
  · rw [List.getElem?_set_ne hj] at q
    rw [List.getElem?_set_ne hj]
    exact s.2 j d' q
theorem SR.clr {τ : Sl} {σ : L2.St} (s : SR ca μ F τ σ) (i : Nat) : SR ca μ F (τ.set i none) σ := by
  refine ⟨by simp [s.1], fun j d' q => ?_⟩
  by_cases hj : i = j
  · subst hj
    have hl : i < τ.length := by
      have := (List.getElem?_eq_some_iff.mp q).1
      simpa using this
    rw [List.getElem?_set_self hl] at q
    cases q
  · rw [List.getElem?_set_ne hj] at q
    exact s.2 j d' q
/-- a new object is taken into the own heap -/
theorem RelH.alloc (r : RelH ca μ F h H) {a : Addr} {o : O} (h1 : H a ≠ none) (h2 : a ∉ μ) (h3 : F a = none) (ho : OR ca μ F H a o) : RelH ca (μ ++ [a]) F (h ++ [o]) H := by
  have ix : ∀ (n : Nat) (x : Addr), μ[n]? = some x → (μ ++ [a])[n]? = some x := fun n x q => by
    rw [List.getElem?_append_left (List.getElem?_eq_some_iff.mp q).1]; exact q
  refine ⟨by simp [r.len], ?_, r.fz, fun n x o' e1 e2 e3 => ?_, fun x hx => ?_, fun n x o' e1 e2 => ?_⟩
  · rw [List.nodup_append]
    exact ⟨r.nd, by simp, fun x hx y hy => by simp at hy; subst hy; rintro rfl; exact h2 hx⟩
  · by_cases hn : n < μ.length
    · rw [List.getElem?_append_left hn] at e1
      rw [List.getElem?_append_left (by rw [← r.len]; exact hn)] at e2
      exact r.sep n x o' e1 e2 e3
    · have hl := (List.getElem?_eq_some_iff.mp e1).1
      simp at hl
      have e : n = μ.length := by omega
      subst e
      simp at e1
      subst e1
      exact h3
  · rcases List.mem_append.mp hx with z | z
    · exact r.dom x z
    · simp at z; subst z; exact h1
  · by_cases hn : n < μ.length
    · rw [List.getElem?_append_left hn] at e1
      rw [List.getElem?_append_left (by rw [← r.len]; exact hn)] at e2
      exact (r.ob n x o' e1 e2).mono ix (Same.refl _) fun _ q => q
    · have hl := (List.getElem?_eq_some_iff.mp e1).1
      simp at hl
      have e : n = μ.length := by omega
      subst e
      simp at e1
      subst e1
      rw [r.len] at e2
      simp at e2
      subst e2
      exact ho.mono ix (Same.refl _) fun _ q => q
theorem Ext.alloc (e : Ext b μ F H h μ1 F1 H1 h1) {a : Addr} {o : O} (ha : H a = none) (hb : b ≤ h1.length) : Ext b μ F H h (μ1 ++ [a]) F1 H1 (h1 ++ [o]) := by
  obtain ⟨m, e1, e2⟩ := e.pre
  refine ⟨⟨m ++ [a], by rw [e1, List.append_assoc], fun x hx => ?_⟩, e.fz, e.frame, e.dom, e.newF, fun k o' hk q => ?_, fun n x o' f1 f2 f3 => ?_⟩
  · rcases List.mem_append.mp hx with z | z
    · exact e2 x z
    · simp at z; subst z; exact ha
  · rw [List.getElem?_append_left (by omega)] at q
    exact e.keep k o' hk q
  · obtain ⟨w1, w2⟩ := e.st n x o' f1 f2 f3
    rw [List.getElem?_append_left (List.getElem?_eq_some_iff.mp w1).1]
    exact ⟨w1, w2⟩
/-- a new object is frozen -/
theorem RelH.freeze (r : RelH ca μ F h H) {a : Addr} {o : HO} (h1 : H a = some o) (h2 : a ∉ μ) (h3 : F a = none) : RelH ca μ (upd F a o) h H := by
  have hs : Same F (upd F a o) := fun x u e => by rw [upd_ne (ne_of_none e h3)]; exact e
  refine ⟨r.len, r.nd, fun x u e => ?_, fun n x o' e1 e2 e3 => ?_, r.dom, fun n x o' e1 e2 => (r.ob n x o' e1 e2).mono (fun _ _ q => q) hs fun _ q => q⟩
  · by_cases hx : x = a
    · subst hx; rw [upd_same] at e; cases e; exact h1
    · rw [upd_ne hx] at e; exact r.fz x u e
  · rw [upd_ne (show x ≠ a by rintro rfl; exact h2 (List.mem_of_getElem? e1))]; exact r.sep n x o' e1 e2 e3
theorem Ext.freeze (e : Ext b μ F H h μ1 F1 H1 h1) {a : Addr} {o : HO} (ha : H a = none) (h3 : F1 a = none) : Ext b μ F H h μ1 (upd F1 a o) H1 h1 := by
  refine ⟨e.pre, fun x u q => ?_, e.frame, e.dom, fun x q => ?_, e.keep, e.st⟩
  · have := e.fz x u q
    rw [upd_ne (ne_of_none this h3)]; exact this
  · by_cases hx : x = a
    · subst hx; exact .inr (.inr (.inl ha))
    · rw [upd_ne hx] at q; exact e.newF x q
/-- a new tracked object in H -/
theorem RelH.upd (r : RelH ca μ F h H) {a : Addr} {o : HO} (ha : H a = none) : RelH ca μ F h (upd H a o) := by
  have hs : ∀ x u, H x = some u → L2.upd H a o x = some u := fun x u e => by rw [upd_ne (ne_of_none e ha)]; exact e
  refine ⟨r.len, r.nd, fun x u e => hs x u (r.fz x u e), r.sep, fun x hx => ?_, fun n x o' e1 e2 => (r.ob n x o' e1 e2).mono (fun _ _ q => q) (Same.refl _) fun _ q => hs _ _ q⟩
  have := r.dom x hx
  cases q : H x with
  | none => exact absurd q this
  | some u => rw [hs x u q]; simp
theorem Ext.upd (e : Ext b μ F H h μ1 F1 H1 h1) {a : Addr} {o : HO} (ha : H1 a = none) : Ext b μ F H h μ1 F1 (upd H1 a o) h1 := by
  have hs : ∀ x u, H1 x = some u → L2.upd H1 a o x = some u := fun x u e => by rw [upd_ne (ne_of_none e ha)]; exact e
  refine ⟨e.pre, e.fz, fun x u q hx => hs x u (e.frame x u q hx), fun x q => ?_, e.newF, e.keep, fun n x o' f1 f2 f3 => ⟨(e.st n x o' f1 f2 f3).1, fun u z => hs x u ((e.st n x o' f1 f2 f3).2 u z)⟩⟩
  have := e.dom x q
  cases q : H1 x with
  | none => exact absurd q this
  | some u => rw [hs x u q]; simp
/-- an own object changes -/
theorem RelH.put (r : RelH ca μ F h H) {n : Nat} {a : Addr} {o o0 : O} {u : HO} (e : μ[n]? = some a) (e0 : h[n]? = some o0) (n0 : o0 ≠ .dead) (ho : ∀ H', H' a = some u → OR ca μ F H' a o) : RelH ca μ F (h.set n o) (L2.upd H a u) := by
  have ha : a ∈ μ := List.mem_of_getElem? e
  have hF := r.sep n a o0 e e0 n0
  refine ⟨by simp [r.len], r.nd, fun x w q => ?_, fun k x o' e1 e2 e3 => ?_, fun x hx => ?_, fun k x o' e1 e2 => ?_⟩
  · rw [upd_ne (ne_of_none q hF)]; exact r.fz x w q
  · by_cases hk : n = k
    · subst hk
      rw [e] at e1; cases e1
      exact hF
    · rw [List.getElem?_set_ne hk] at e2
      exact r.sep k x o' e1 e2 e3
  · by_cases hx' : x = a
    · subst hx'; rw [upd_same]; simp
    · rw [upd_ne hx']; exact r.dom x hx
  · by_cases hk : n = k
    · subst hk
      rw [e] at e1; cases e1
      have hl := (List.getElem?_eq_some_iff.mp e2).1
      rw [List.length_set] at hl
      rw [List.getElem?_set_self hl] at e2
      cases e2
      exact ho _ upd_same
    · rw [List.getElem?_set_ne hk] at e2
      have hne : x ≠ a := by
        rintro rfl
        obtain ⟨l1, q1⟩ := List.getElem?_eq_some_iff.mp e
        obtain ⟨l2, q2⟩ := List.getElem?_eq_some_iff.mp e1
        exact hk ((List.getElem_inj r.nd).mp (q1.trans q2.symm))
      exact (r.ob k x o' e1 e2).mono (fun _ _ q => q) (Same.refl _) fun w q => by rw [upd_ne hne]; exact q
theorem Ext.put (x : Ext b μ F H h μ1 F1 H1 h1) {n : Nat} {a : Addr} {o o0 : O} {u : HO} (r1 : RelH ca μ1 F1 h1 H1) (e : μ1[n]? = some a) (e0 : h1[n]? = some o0) (n0 : stb o0 = false) (hk : b ≤ n ∨ nrfO o = true ∨ subR o o0 = true) : Ext b μ F H h μ1 F1 (L2.upd H1 a u) (h1.set n o) := by
  have ha : a ∈ μ1 := List.mem_of_getElem? e
  obtain ⟨m, e1, e2⟩ := x.pre
  refine ⟨x.pre, x.fz, fun y w q hy => ?_, fun y q => ?_, x.newF, fun k o' hk' q => ?_, fun k y o' f1 f2 f3 => ?_⟩
  · rw [upd_ne ?_]
    · exact x.frame y w q hy
    · rintro rfl
      rw [e1] at ha
      rcases List.mem_append.mp ha with z | z
      · exact hy z
      · rw [e2 _ z] at q; cases q
  · by_cases hy : y = a
    · subst hy; rw [upd_same]; simp
    · rw [upd_ne hy]; exact x.dom y q
  · by_cases hn : n = k
    · subst hn
      have hl := (List.getElem?_eq_some_iff.mp q).1
      rw [List.length_set] at hl
      rw [List.getElem?_set_self hl] at q
      cases q
      rcases hk with z | z | z
      · omega
      · exact .inr (.inl z)
      · exact (x.keep _ _ hk' e0).sub z
    · rw [List.getElem?_set_ne hn] at q
      exact x.keep k o' hk' q
  · obtain ⟨w1, w2⟩ := x.st k y o' f1 f2 f3
    have f1' : μ1[k]? = some y := x.ix k y f1
    have hn : n ≠ k := by
      rintro rfl
      rw [e0] at w1; cases w1
      rw [n0] at f3; cases f3
    refine ⟨by rw [List.getElem?_set_ne hn]; exact w1, fun w z => ?_⟩
    have hne : y ≠ a := by
      rintro rfl
      obtain ⟨l1, q1⟩ := List.getElem?_eq_some_iff.mp e
      obtain ⟨l2, q2⟩ := List.getElem?_eq_some_iff.mp f1'
      exact hn ((List.getElem_inj r1.nd).mp (q1.trans q2.symm))
    rw [upd_ne hne]
    exact w2 w z
/-- .. whatever it is now, where it was no fixed one at the start -/
theorem Ext.put' (x : Ext b μ F H h μ1 F1 H1 h1) {n : Nat} {a : Addr} {o : O} {u : HO} (r1 : RelH ca μ1 F1 h1 H1) (e : μ1[n]? = some a) (n0 : ∀ o', h[n]? = some o' → stb o' = true → False) (hk : b ≤ n ∨ nrfO o = true) : Ext b μ F H h μ1 F1 (L2.upd H1 a u) (h1.set n o) := by
  have ha : a ∈ μ1 := List.mem_of_getElem? e
  obtain ⟨m, e1, e2⟩ := x.pre
  refine ⟨x.pre, x.fz, fun y w q hy => ?_, fun y q => ?_, x.newF, fun k o' hk' q => ?_, fun k y o' f1 f2 f3 => ?_⟩
  · rw [upd_ne ?_]
    · exact x.frame y w q hy
    · rintro rfl
      rw [e1] at ha
      rcases List.mem_append.mp ha with z | z
      · exact hy z
      · rw [e2 _ z] at q; cases q
  · by_cases hy : y = a
    · subst hy; rw [upd_same]; simp
    · rw [upd_ne hy]; exact x.dom y q
  · by_cases hn : n = k
    · subst hn
      have hl := (List.getElem?_eq_some_iff.mp q).1
      rw [List.length_set] at hl
      rw [List.getElem?_set_self hl] at q
      cases q
      rcases hk with z | z
      · omega
      · exact .inr (.inl z)
    · rw [List.getElem?_set_ne hn] at q
      exact x.keep k o' hk' q
  · obtain ⟨w1, w2⟩ := x.st k y o' f1 f2 f3
    have f1' : μ1[k]? = some y := x.ix k y f1
    have hn : n ≠ k := by
      rintro rfl
      exact n0 o' f2 f3
    refine ⟨by rw [List.getElem?_set_ne hn]; exact w1, fun w z => ?_⟩
    have hne : y ≠ a := by
      rintro rfl
      obtain ⟨l1, q1⟩ := List.getElem?_eq_some_iff.mp e
      obtain ⟨l2, q2⟩ := List.getElem?_eq_some_iff.mp f1'
      exact hn ((List.getElem_inj r1.nd).mp (q1.trans q2.symm))
    rw [upd_ne hne]
    exact w2 w z
theorem Ext.base {b' : Nat} (x : Ext b μ F H h μ1 F1 H1 h1) (hb : b' ≤ b) : Ext b' μ F H h μ1 F1 H1 h1 := ⟨x.pre, x.fz, x.frame, x.dom, x.newF, fun k o hk q => x.keep k o (Nat.lt_of_lt_of_le hk hb) q, x.st⟩
/-- an own object is frozen where it stands -/
theorem RelH.fzOwn (r : RelH ca μ F h H) {n : Nat} {a : Addr} {o : O} {u : HO} (e : μ[n]? = some a) (e0 : h[n]? = some o) (n0 : o ≠ .dead) (hu : H a = some u) : RelH ca μ (L2.upd F a u) (h.set n .dead) H := by
  have hF := r.sep n a o e e0 n0
  have hs : Same F (L2.upd F a u) := fun x w q => by rw [upd_ne (ne_of_none q hF)]; exact q
  refine ⟨by simp [r.len], r.nd, fun x w q => ?_, fun k x o' e1 e2 e3 => ?_, r.dom, fun k x o' e1 e2 => ?_⟩
  · by_cases hx : x = a
    · subst hx; rw [upd_same] at q; cases q; exact hu
    · rw [upd_ne hx] at q; exact r.fz x w q
  · by_cases hk : n = k
    · subst hk
      have hl := (List.getElem?_eq_some_iff.mp e2).1
      rw [List.length_set] at hl
      rw [List.getElem?_set_self hl] at e2
      cases e2
      exact absurd rfl e3
    · rw [List.getElem?_set_ne hk] at e2
      have hne : x ≠ a := by
        rintro rfl
        obtain ⟨l1, q1⟩ := List.getElem?_eq_some_iff.mp e
        obtain ⟨l2, q2⟩ := List.getElem?_eq_some_iff.mp e1
        exact hk ((List.getElem_inj r.nd).mp (q1.trans q2.symm))
      rw [upd_ne hne]
      exact r.sep k x o' e1 e2 e3
  · by_cases hk : n = k
    · subst hk
      have hl := (List.getElem?_eq_some_iff.mp e2).1
      rw [List.length_set] at hl
      rw [List.getElem?_set_self hl] at e2
      cases e2
      exact True.intro
    · rw [List.getElem?_set_ne hk] at e2
      exact (r.ob k x o' e1 e2).mono (fun _ _ q => q) hs fun _ q => q
theorem Ext.fzOwn (x : Ext b μ F H h μ1 F1 H1 h1) (r1 : RelH ca μ1 F1 h1 H1) {n : Nat} {a : Addr} {o : O} {u : HO} (e : μ1[n]? = some a) (e0 : h1[n]? = some o) (n0 : o ≠ .dead) (n1 : stb o = false) : Ext b μ F H h μ1 (L2.upd F1 a u) H1 (h1.set n .dead) := by
  have hF := r1.sep n a o e e0 n0
  have ha : a ∈ μ1 := List.mem_of_getElem? e
  obtain ⟨m, e1, e2⟩ := x.pre
  refine ⟨x.pre, fun y w q => ?_, x.frame, x.dom, fun y q => ?_, fun k o' hk q => ?_, fun k y o' f1 f2 f3 => ?_⟩
  · have := x.fz y w q
    rw [upd_ne (ne_of_none this hF)]; exact this
  · by_cases hy : y = a
    · subst hy
      rw [e1] at ha
      rcases List.mem_append.mp ha with z | z
      · exact .inr (.inl z)
      · exact .inr (.inr (.inl (e2 _ z)))
    · rw [upd_ne hy] at q; exact x.newF y q
  · by_cases hn : n = k
    · subst hn
      have hl := (List.getElem?_eq_some_iff.mp q).1
      rw [List.length_set] at hl
      rw [List.getElem?_set_self hl] at q
      cases q
      exact .inr (.inl rfl)
    · rw [List.getElem?_set_ne hn] at q
      exact x.keep k o' hk q
  · obtain ⟨w1, w2⟩ := x.st k y o' f1 f2 f3
    have hn : n ≠ k := by
      rintro rfl
      rw [e0] at w1; cases w1
      rw [n1] at f3; cases f3
    exact ⟨by rw [List.getElem?_set_ne hn]; exact w1, w2⟩
/-- an own thing is no tuple -/
theorem OR.noTup {a : Addr} {o : O} {xs : List V} (h : OR ca μ F H a o) (n0 : o ≠ .dead) (e : H a = some (.tup xs)) : False := by
  cases o with
  | lst _ => obtain ⟨_, q, _⟩ := h; rw [e] at q; cases q
  | dK _ => obtain ⟨_, q, _⟩ := h; rw [e] at q; cases q
  | dT _ => obtain ⟨_, q, _⟩ := h; rw [e] at q; cases q
  | ins _ _ => obtain ⟨_, _, q, _⟩ := h; rw [e] at q; cases q
  | lkK _ => obtain ⟨_, _, q, _⟩ := h; rw [e] at q; cases q
  | lkT _ => obtain ⟨_, _, q, _⟩ := h; rw [e] at q; cases q
  | tb _ => obtain ⟨_, _, q, _⟩ := h; rw [e] at q; cases q
  | dead => exact n0 rfl
/-- a tuple that stands is taken into the frozen part -/
theorem RelH.fzTup (r : RelH ca μ F h H) {a : Addr} {xs : List V} (e : H a = some (.tup xs)) : ∃ F', F' a = some (.tup xs) ∧ RelH ca μ F' h H ∧ ∀ b, Ext b μ F H h μ F' H h := by
  cases q : F a with
  | some w =>
    have := r.fz a w q
    rw [e] at this; cases this
    exact ⟨F, q, r, fun b => Ext.refl⟩
  | none =>
    have hs : Same F (L2.upd F a (.tup xs)) := fun x w q' => by rw [upd_ne (ne_of_none q' q)]; exact q'
    refine ⟨L2.upd F a (.tup xs), upd_same, ⟨r.len, r.nd, fun x w q' => ?_, fun n x o e1 e2 e3 => ?_, r.dom, fun n x o e1 e2 => (r.ob n x o e1 e2).mono (fun _ _ z => z) hs fun _ z => z⟩, fun b => ⟨⟨[], by simp, by simp⟩, hs, fun _ _ z _ => z, fun _ z => z, fun x q' => ?_, fun _ _ _ z => .inl z, fun _ _ _ _ z _ => ⟨z, fun _ z => z⟩⟩⟩
    · by_cases hx : x = a
      · subst hx; rw [upd_same] at q'; cases q'; exact e
      · rw [upd_ne hx] at q'; exact r.fz x w q'
    · have hne : x ≠ a := by rintro rfl; exact (r.ob n x o e1 e2).noTup e3 e
      rw [upd_ne hne]; exact r.sep n x o e1 e2 e3
    · by_cases hx : x = a
      · subst hx; exact .inr (.inr (.inr (.inl ⟨xs, e⟩)))
      · rw [upd_ne hx] at q'; exact .inl q'
/-- a new object of nobody changes -/
theorem RelH.updFree (r : RelH ca μ F h H) {a : Addr} {u : HO} (h1 : a ∉ μ) (h2 : F a = none) : RelH ca μ F h (L2.upd H a u) := by
  refine ⟨r.len, r.nd, fun x w q => by rw [upd_ne (ne_of_none q h2)]; exact r.fz x w q, r.sep, fun x hx => ?_, fun n x o' e1 e2 => (r.ob n x o' e1 e2).mono (fun _ _ q => q) (Same.refl _) fun w q => ?_⟩
  · rw [upd_ne (show x ≠ a by rintro rfl; exact h1 hx)]; exact r.dom x hx
  · rw [upd_ne (show x ≠ a by rintro rfl; exact h1 (List.mem_of_getElem? e1))]; exact q
theorem Ext.updFree (x : Ext b μ F H h μ1 F1 H1 h1) {a : Addr} {u : HO} (ha : H a = none) : Ext b μ F H h μ1 F1 (L2.upd H1 a u) h1 := by
  refine ⟨x.pre, x.fz, fun y w q hy => ?_, fun y q => ?_, x.newF, x.keep, fun n y o' f1 f2 f3 => ⟨(x.st n y o' f1 f2 f3).1, fun w z => ?_⟩⟩
  · rw [upd_ne (ne_of_none q ha)]; exact x.frame y w q hy
  · by_cases hy : y = a
    · subst hy; rw [upd_same]; simp
    · rw [upd_ne hy]; exact x.dom y q
  · rw [upd_ne (ne_of_none z ha)]
    exact (x.st n y o' f1 f2 f3).2 w z
end
end Z
set_option Elab.async false
set_option linter.all false
set_option maxRecDepth 100000
set_option maxHeartbeats 1000000
/-! Z2: judgements; expressions. -/
namespace Z
open PySem PySem.Spec L2

/-- what is wanted behind a run -/
def PostG {α : Type} (ca : Cn) (b : Nat) (μ : List Addr) (F H : Hp) (h : Own) (r : Res α) (W : Nat → Hp → Prop) (K : α → List Addr → Hp → Hp → Own → Prop) : Prop :=
  match r with
  | .ok a h1 => ∀ μ1 F1 H1, Ext b μ F H h μ1 F1 H1 h1 → RelH ca μ1 F1 h1 H1 → K a μ1 F1 H1 h1
  | .exc c h1 => ∀ μ1 F1 H1, Ext b μ F H h μ1 F1 H1 h1 → RelH ca μ1 F1 h1 H1 → W c H1
  | .stuck => False
section
variable {α β : Type} {ca : Cn} {b : Nat} {μ : List Addr} {F H : Hp} {h : Own} {W : Nat → Hp → Prop}
theorem PostG.bind {x : Res α} {f : α → Own → Res β} {K : β → List Addr → Hp → Hp → Own → Prop} (p : PostG ca b μ F H h (x.bind f) W K) :
    PostG ca b μ F H h x W fun a μ1 F1 H1 h1 => PostG ca b μ1 F1 H1 h1 (f a h1) W K := by
  cases x with
  | stuck => exact p
  | exc c h1 => exact p
  | ok a h1 =>
    intro μ1 F1 H1 E1 R1
    have p' : PostG ca b μ F H h (f a h1) W K := p
    cases e : f a h1 with
    | stuck => rw [e] at p'; exact p'
    | exc c h2 => rw [e] at p'; exact fun μ2 F2 H2 E2 R2 => p' μ2 F2 H2 (E1.trans E2) R2
    | ok a2 h2 => rw [e] at p'; exact fun μ2 F2 H2 E2 R2 => p' μ2 F2 H2 (E1.trans E2) R2
theorem PostG.imp {r : Res α} {K K' : α → List Addr → Hp → Hp → Own → Prop} (p : PostG ca b μ F H h r W K)
    (i : ∀ a μ1 F1 H1 h1, Ext b μ F H h μ1 F1 H1 h1 → RelH ca μ1 F1 h1 H1 → K a μ1 F1 H1 h1 → K' a μ1 F1 H1 h1) : PostG ca b μ F H h r W K' := by
  cases r with
  | stuck => exact p
  | exc c h1 => exact p
  | ok a h1 => exact fun μ1 F1 H1 E1 R1 => i a μ1 F1 H1 h1 E1 R1 (p μ1 F1 H1 E1 R1)
theorem PostG.ok {a : α} {K : α → List Addr → Hp → Hp → Own → Prop} (p : PostG ca b μ F H h (.ok a h) W K) (R : RelH ca μ F h H) : K a μ F H h := p μ F H Ext.refl R
end
/-- own state and HandS' state -/
structure At (ca : Cn) (μ : List Addr) (F : Hp) (τ : Fm) (h : Own) (σ : L2.St) (H : Hp) : Prop where
  rel : RelH ca μ F h H
  sl : SR ca μ F τ.s σ
  bl : τ.b ≤ h.length
theorem At.ext {ca : Cn} {μ μ1 : List Addr} {F F1 : Hp} {τ : Fm} {h h1 : Own} {σ : L2.St} {H H1 : Hp} {b : Nat} (a : At ca μ F τ h σ H) (e : Ext b μ F H h μ1 F1 H1 h1) (r : RelH ca μ1 F1 h1 H1) : At ca μ1 F1 τ h1 σ H1 :=
  ⟨r, e.sr a.sl, Nat.le_trans a.bl (e.len a.rel r)⟩
abbrev EX := Fm → Own → Res R
abbrev ED := Fm → Own → Res D
abbrev EA := Fm → Own → Res (List D)
abbrev EB := Fm → Own → Res Bool
abbrev WF := L2.WX
def wx (ca : Cn) (W : WF) (σ : L2.St) : Nat → Hp → Prop := fun c H => W (.ref (ca.ad c)) none σ H
def rdE (ca : Cn) (W : WF) (x : EX) : TE := fun σ H Q => ∃ μ F τ h, At ca μ F τ h σ H ∧ PostG ca τ.b μ F H h (x τ h) (wx ca W σ) fun r μ1 F1 H1 _ => ∀ v, RR ca μ1 F1 H H1 v r → Q v H1
def rdD (ca : Cn) (W : WF) (x : ED) : TE := fun σ H Q => ∃ μ F τ h, At ca μ F τ h σ H ∧ PostG ca τ.b μ F H h (x τ h) (wx ca W σ) fun d μ1 F1 H1 _ => ∀ v, VR ca μ1 F1 v d → Q v H1
def rdA (ca : Cn) (W : WF) (x : EA) : TA := fun σ H Q => ∃ μ F τ h, At ca μ F τ h σ H ∧ PostG ca τ.b μ F H h (x τ h) (wx ca W σ) fun ds μ1 F1 H1 _ => ∀ vs, VRs ca μ1 F1 vs ds → Q vs H1
def rdB (ca : Cn) (W : WF) (x : EB) : TT := fun σ H Q => ∃ μ F τ h, At ca μ F τ h σ H ∧ PostG ca τ.b μ F H h (x τ h) (wx ca W σ) fun k _ _ H1 _ => Q k H1
def SE (ca : Cn) (X : Cx) (W : WF) (e : Expr) (x : EX) : Prop := PE X e (rdE ca W x)
def SD (ca : Cn) (X : Cx) (W : WF) (e : Expr) (x : ED) : Prop := PE X e (rdD ca W x)
def SA (ca : Cn) (X : Cx) (W : WF) (e : List Expr) (x : EA) : Prop := PA X e (rdA ca W x)
def SB (ca : Cn) (X : Cx) (W : WF) (e : Expr) (x : EB) : Prop := PT X e (rdB ca W x)
def SW (ca : Cn) (X : Cx) (W : WF) (e : Expr) (x : EB) : Prop := PW X e (rdB ca W x)
theorem PE.imp {X : Cx} {e : Expr} {t t' : TE} (h : PE X e t) (i : ∀ σ H Q, t' σ H Q → t σ H Q) : PE X e t' := ⟨fun pins s σ H Q I q => h.run pins s σ H Q I (i σ H Q q)⟩
theorem PT.imp {X : Cx} {e : Expr} {t t' : TT} (h : PT X e t) (i : ∀ σ H Q, t' σ H Q → t σ H Q) : PT X e t' := ⟨fun pins s σ H Q I q => h.run pins s σ H Q I (i σ H Q q)⟩
theorem PW.imp {X : Cx} {e : Expr} {t t' : TT} (h : PW X e t) (i : ∀ σ H Q, t' σ H Q → t σ H Q) : PW X e t' := ⟨fun wh pins s σ H Q I q => h.run wh pins s σ H Q I (i σ H Q q)⟩
theorem PA.imp {X : Cx} {e : List Expr} {t t' : TA} (h : PA X e t) (i : ∀ σ H Q, t' σ H Q → t σ H Q) : PA X e t' := ⟨fun pos pins s σ H Q I q => h.run pos pins s σ H Q I (i σ H Q q)⟩
theorem PS.imp {X : Cx} {e : Stmt} {t t' : TS} (h : PS X e t) (i : ∀ D σ H, t' D σ H → t D σ H) : PS X e t' := ⟨fun pins s σ H Q I q => h.run pins s σ H Q I (i Q σ H q)⟩
theorem PSs.imp {X : Cx} {e : List Stmt} {t t' : TS} (h : PSs X e t) (i : ∀ D σ H, t' D σ H → t D σ H) : PSs X e t' := ⟨fun pins s σ H Q I q => h.run pins s σ H Q I (i Q σ H q)⟩

/-! ### values and new objects -/
def frzO : O → Option D
  | .lst ds => some (.lst ds)
  | .dK k => some (.dK k)
  | .dT k => some (.dT k)
  | .ins c fs => some (.obj c fs)
  | .dead => none
  | .lkK _ => none
  | .lkT _ => none
  | .tb _ => none
/-- the outcome frozen -/
def ed (x : EX) : ED := fun τ h => (x τ h).bind fun r h1 => match r with
  | .v d => .ok d h1
  | .n o => match frzO o with
    | some d => .ok d h1
    | none => .stuck
def ev (x : ED) : EX := fun τ h => (x τ h).bind fun d h1 => .ok (.v d) h1
section
variable {ca : Cn} {X : Cx} {W : WF} {e : Expr}
theorem frz_ok {μ : List Addr} {F H : Hp} {a : Addr} {o : O} {d : D} (ho : OR ca μ F H a o) (e : frzO o = some d) (hF : F a = none) : ∃ u, H a = some u ∧ VR ca μ (upd F a u) (.ref a) d := by
  have hs : ∀ u, Same F (upd F a u) := fun u x w q => by rw [upd_ne (ne_of_none q hF)]; exact q
  cases o with
  | lst ds =>
    obtain ⟨vs, q, r⟩ := ho
    cases e
    exact ⟨_, q, .lst upd_same (r.mono (fun _ _ z => z) (hs _))⟩
  | dK ds =>
    obtain ⟨vs, q, k, r⟩ := ho
    cases e
    exact ⟨_, q, .dK upd_same k (r.mono (fun _ _ z => z) (hs _))⟩
  | dT ds =>
    obtain ⟨vs, q, k, r⟩ := ho
    cases e
    exact ⟨_, q, .dT upd_same k (r.mono (fun _ _ z => z) (hs _))⟩
  | ins c ds =>
    obtain ⟨dx, vs, q, k, r⟩ := ho
    cases e
    exact ⟨_, q, .obj upd_same k (r.mono (fun _ _ z => z) (hs _))⟩
  | dead => cases e
  | lkK _ => cases e
  | lkT _ => cases e
  | tb _ => cases e
/-- from a wish about what is frozen to one about the outcome -/
theorem frz_post {b : Nat} {μ : List Addr} {F H : Hp} {h : Own} {Wx : Nat → Hp → Prop} {r : Res R} {Q : VK}
    (p : PostG ca b μ F H h (r.bind fun r h1 => match r with | .v d => .ok d h1 | .n o => match frzO o with | some d => .ok d h1 | none => .stuck) Wx fun d μ1 F1 H1 _ => ∀ v, VR ca μ1 F1 v d → Q v H1) :
    PostG ca b μ F H h r Wx fun r μ1 F1 H1 _ => ∀ v, RR ca μ1 F1 H H1 v r → Q v H1 := by
  cases r with
  | stuck => exact p
  | exc c h1 => exact p
  | ok a h1 =>
    intro μ1 F1 H1 E1 R1 v V
    cases a with
    | v d => exact p μ1 F1 H1 E1 R1 v V
    | n o =>
      have p' : PostG ca b μ F H h (match frzO o with | some d => .ok d h1 | none => .stuck) Wx fun d μ1 F1 H1 _ => ∀ v, VR ca μ1 F1 v d → Q v H1 := p
      cases hf : frzO o with
      | none => rw [hf] at p'; exact p'.elim
      | some d =>
        rw [hf] at p'
        obtain ⟨a, rfl, h0, hd, hm, hF, ho⟩ := V
        obtain ⟨u, hu, hv⟩ := frz_ok ho hf hF
        exact p' μ1 _ H1 (E1.freeze h0 hF) (R1.freeze hu hm hF) _ hv
theorem SD.of {x : EX} (h : SE ca X W e x) : SD ca X W e (ed x) := PE.imp h fun σ H Q ⟨μ, F, τ, h, A, p⟩ => ⟨μ, F, τ, h, A, frz_post p⟩
theorem SE.of {x : ED} (h : SD ca X W e x) : SE ca X W e (ev x) := PE.imp h fun σ H Q ⟨μ, F, τ, h, A, p⟩ => ⟨μ, F, τ, h, A, by
  have p' := p.bind
  exact p'.imp fun d μ1 F1 H1 h1 E1 R1 q v V => q.ok R1 v V⟩

/-! ### names, constants -/
def eVar (i : Nat) : ED := fun τ h => match τ.s[i]? with
  | some (some d) => .ok d h
  | _ => .stuck
def eC (d : D) : ED := fun _ h => .ok d h
theorem sd_var {i : Nat} {x : Str} {pos : Pos} (h : PE X (.Name x pos) (tVar i)) : SD ca X W (.Name x pos) (eVar i) := PE.imp h fun σ H Q ⟨μ, F, τ, h, A, p⟩ => by
  unfold eVar at p
  split at p
  · rename_i d e
    obtain ⟨v, e1, r⟩ := A.sl.2 i d e
    exact ⟨v, e1, p.ok A.rel v r⟩
  · exact p.elim
theorem sd_int {i j pos} : SD ca X W (.Constant (.int i) j pos) (eC (.int i)) := PE.imp pe_int fun σ H Q ⟨μ, F, τ, h, A, p⟩ => p.ok A.rel _ (.int i)
theorem sd_bl {i j pos} : SD ca X W (.Constant (.bool i) j pos) (eC (.bl i)) := PE.imp pe_bl fun σ H Q ⟨μ, F, τ, h, A, p⟩ => p.ok A.rel _ (.bl i)
theorem sd_non {j pos} : SD ca X W (.Constant .none j pos) (eC .non) := PE.imp pe_non fun σ H Q ⟨μ, F, τ, h, A, p⟩ => p.ok A.rel _ .non
theorem sd_str {i j pos} : SD ca X W (.Constant (.str i) j pos) (eC (.str i)) := PE.imp pe_str fun σ H Q ⟨μ, F, τ, h, A, p⟩ => p.ok A.rel _ (.str i)
/-- a constant of the module: an int, a bool, a text -/
theorem sd_glob {x : Str} {d : D} {v : V} {pos : Pos} (h : PE X (.Name x pos) (tC v)) (r : ∀ μ F, VR ca μ F v d) : SD ca X W (.Name x pos) (eC d) := PE.imp h fun σ H Q ⟨μ, F, τ, h, A, p⟩ => p.ok A.rel _ (r μ F)

/-! ### operators on values -/
abbrev F2 := D → D → Own → Res R
/-- f is what the operator with the reading r does -/
def Lk2 (ca : Cn) (f : F2) (r : R2) : Prop := ∀ (b : Nat) (μ : List Addr) (F H : Hp) (h : Own) (Wx : Nat → Hp → Prop) (x y : V) (c d : D) (Q : VK), RelH ca μ F h H → VR ca μ F x c → VR ca μ F y d → b ≤ h.length →
  PostG ca b μ F H h (f c d h) Wx (fun r μ1 F1 H1 _ => ∀ v, RR ca μ1 F1 H H1 v r → Q v H1) → r x y H Q
def e2 (f : F2) (a b : ED) : EX := fun τ h => (a τ h).bind fun x h1 => (b τ h1).bind fun y h2 => f x y h2
theorem lk_op {f : F2} {r : R2} {ta tb : ED} (lk : Lk2 ca f r) : ∀ σ H Q, rdE ca W (e2 f ta tb) σ H Q → tOp r (rdD ca W ta) (rdD ca W tb) σ H Q := fun σ H Q ⟨μ, F, τ, h, A, p⟩ =>
  ⟨μ, F, τ, h, A, p.bind.imp fun c μ1 F1 H1 h1 E1 R1 q v V => ⟨μ1, F1, τ, h1, A.ext E1 R1, q.bind.imp fun d μ2 F2 H2 h2 E2 R2 q2 w V2 =>
    lk τ.b μ2 F2 H2 h2 _ v w c d Q R2 (E2.vr V) V2 (Nat.le_trans A.bl (Nat.le_trans (E1.len A.rel R1) (E2.len R1 R2))) (q2.imp fun r μ3 F3 H3 h3 E3 R3 q3 u V3 => q3 u (RR.back E1 (RR.back E2 V3)))⟩⟩
theorem se_op {op : Operator} {a b : Expr} {pos : Pos} {f : F2} {r : R2} {ta tb : ED} (ho : OpR X (binaryOp op) r) (lk : Lk2 ca f r) (ha : SD ca X W a ta) (hb : SD ca X W b tb) : SE ca X W (.BinOp a op b pos) (e2 f ta tb) := PE.imp (pe_op ho ha hb) (lk_op lk)
theorem se_cmp {op : CmpOp} {a b : Expr} {pos : Pos} {f : F2} {r : R2} {ta tb : ED} (ho : OpR X (compareOp op) r) (lk : Lk2 ca f r) (ha : SD ca X W a ta) (hb : SD ca X W b tb) (hm : behindInMarks op b = false) : SE ca X W (.Compare a [op] [b] pos) (e2 f ta tb) := PE.imp (pe_cmpR ho ha hb hm) (lk_op lk)
theorem Lk2.or {f g : F2} {r s : R2} (a : Lk2 ca f r) (b : Lk2 ca g s) : Lk2 ca (fun x y h => match f x y h with | .stuck => g x y h | z => z) (fun x y H Q => r x y H Q ∨ s x y H Q) := by
  intro n μ F H h Wx x y c d Q R V1 V2 hb p
  cases e : f c d h with
  | stuck => simp only [e] at p; exact .inr (b n μ F H h Wx x y c d Q R V1 V2 hb p)
  | ok _ _ => simp only [e] at p; exact .inl (a n μ F H h Wx x y c d Q R V1 V2 hb (by rw [e]; exact p))
  | exc _ _ => simp only [e] at p; exact .inl (a n μ F H h Wx x y c d Q R V1 V2 hb (by rw [e]; exact p))
def fI (g : Int → Int → D) : F2
  | .int i, .int j, h => .ok (.v (g i j)) h
  | _, _, _ => .stuck
def fIc (C : Int → Int → Bool) (g : Int → Int → D) : F2
  | .int i, .int j, h => if C i j = true then .ok (.v (g i j)) h else .stuck
  | _, _, _ => .stuck
theorem lkI {g : Int → Int → V} {g' : Int → Int → D} (hg : ∀ i j μ F, VR ca μ F (g i j) (g' i j)) : Lk2 ca (fI g') (rI0 g) := by
  intro b μ F H h Wx x y c d Q R V1 V2 _ p
  cases V1 <;> first | exact p.elim | skip
  cases V2 <;> first | exact p.elim | skip
  exact ⟨_, _, rfl, rfl, p.ok R _ (hg _ _ _ _)⟩
theorem lkIc {C : Int → Int → Prop} {C' : Int → Int → Bool} {g : Int → Int → V} {g' : Int → Int → D} (hc : ∀ i j, C' i j = true → C i j) (hg : ∀ i j μ F, VR ca μ F (g i j) (g' i j)) : Lk2 ca (fIc C' g') (rI C g) := by
  intro b μ F H h Wx x y c d Q R V1 V2 _ p
  cases V1 with
  | int i =>
    cases V2 with
    | int j =>
      have p' : PostG ca b μ F H h (if C' i j = true then .ok (.v (g' i j)) h else .stuck) Wx (fun r μ1 F1 H1 _ => ∀ v, RR ca μ1 F1 H H1 v r → Q v H1) := p
      by_cases hC : C' i j = true
      · rw [if_pos hC] at p'
        exact ⟨_, _, rfl, rfl, hc _ _ hC, p'.ok R _ (hg _ _ _ _)⟩
      · rw [if_neg hC] at p'
        exact p'.elim
    | _ => exact (show False from p).elim
  | _ => exact (show False from p).elim
end
end Z
set_option Elab.async false
set_option linter.all false
set_option maxRecDepth 100000
set_option maxHeartbeats 1000000
/-! Z3: operators. -/
namespace Z
open PySem PySem.Spec L2
section
variable {ca : Cn} {X : Cx} {W : WF}
def fSub : F2 := fI fun i j => .int (i - j)
def fMul : F2 := fIc (fun i j => decide (-(2 ^ 64) < i ∧ i < 2 ^ 64) || decide (-(2 ^ 64) < j ∧ j < 2 ^ 64)) fun i j => .int (i * j)
def fDiv : F2 := fIc (fun _ j => decide (0 < j) && decide (j < 1073741824)) fun i j => .int (i / j)
def fMod : F2 := fIc (fun _ j => decide (0 < j)) fun i j => .int (i % j)
def fPow : F2 := fIc (fun i j => decide (0 ≤ j) && decide (j ≤ 1000000) && decide (i.natAbs < 2 ^ 64)) fun i j => .int (i ^ j.toNat)
def fShl : F2 := fIc (fun i j => decide (0 ≤ j) && decide (j ≤ 1000000) && decide (i.natAbs < 2 ^ 64)) fun i j => .int (i * 2 ^ j.toNat)
def fShr : F2 := fIc (fun _ j => decide (0 ≤ j)) fun i j => .int (i / 2 ^ j.toNat)
def fAnd : F2 := fI fun i j => .int (Builtin.bitAnd i j)
def fOr : F2 := fI fun i j => .int (Builtin.bitOr i j)
def fLt : F2 := fI fun i j => .bl (decide (i < j))
def fLe : F2 := fI fun i j => .bl (decide (i ≤ j))
def fGt : F2 := fI fun i j => .bl (decide (j < i))
def fGe : F2 := fI fun i j => .bl (decide (j ≤ i))
theorem lk_sub : Lk2 ca fSub (rI0 fun i j => .int (i - j)) := lkI fun i j _ _ => .int _
theorem lk_mul : Lk2 ca fMul (rI CMul fun i j => .int (i * j)) := lkIc (fun i j q => by simpa [CMul] using q) fun i j _ _ => .int _
theorem lk_div : Lk2 ca fDiv (rI CDiv fun i j => .int (i / j)) := lkIc (fun i j q => by simpa [CDiv] using q) fun i j _ _ => .int _
theorem lk_mod : Lk2 ca fMod (rI (fun _ j => 0 < j) fun i j => .int (i % j)) := lkIc (fun i j q => by simpa using q) fun i j _ _ => .int _
theorem lk_pow : Lk2 ca fPow (rI CPow fun i j => .int (i ^ j.toNat)) := lkIc (fun i j q => by simpa [CPow, and_assoc] using q) fun i j _ _ => .int _
theorem lk_shl : Lk2 ca fShl (rI CPow fun i j => .int (i * 2 ^ j.toNat)) := lkIc (fun i j q => by simpa [CPow, and_assoc] using q) fun i j _ _ => .int _
theorem lk_shr : Lk2 ca fShr (rI (fun _ j => 0 ≤ j) fun i j => .int (i / 2 ^ j.toNat)) := lkIc (fun i j q => by simpa using q) fun i j _ _ => .int _
theorem lk_and : Lk2 ca fAnd (rI0 fun i j => .int (Builtin.bitAnd i j)) := lkI fun i j _ _ => .int _
theorem lk_or : Lk2 ca fOr (rI0 fun i j => .int (Builtin.bitOr i j)) := lkI fun i j _ _ => .int _
theorem lk_lt : Lk2 ca fLt (rI0 fun i j => .bl (decide (i < j))) := lkI fun i j _ _ => .bl _
theorem lk_le : Lk2 ca fLe (rI0 fun i j => .bl (decide (i ≤ j))) := lkI fun i j _ _ => .bl _
theorem lk_gt : Lk2 ca fGt (rI0 fun i j => .bl (decide (j < i))) := lkI fun i j _ _ => .bl _
theorem lk_ge : Lk2 ca fGe (rI0 fun i j => .bl (decide (j ≤ i))) := lkI fun i j _ _ => .bl _

/-! ### sequences -/
/-- a list's items -/
def asL (h : Own) : D → Option (List D)
  | .lst ds => some ds
  | .ref n => match h[n]? with
    | some (.lst ds) => some ds
    | _ => none
  | _ => none
def asQ (h : Own) : D → Option (List D)
  | .tup ds => some ds
  | d => asL h d
theorem asL_ok {μ : List Addr} {F H : Hp} {h : Own} {v : V} {d : D} {ds : List D} (R : RelH ca μ F h H) (V1 : VR ca μ F v d) (e : asL h d = some ds) : ∃ a vs, v = .ref a ∧ H a = some (.lst vs) ∧ VRs ca μ F vs ds := by
  cases V1 with
  | lst q r => cases e; exact ⟨_, _, rfl, R.fz _ _ q, r⟩
  | ref q =>
    rename_i a n
    unfold asL at e
    dsimp only at e
    split at e
    · rename_i ds' q2
      cases e
      obtain ⟨vs, q3, r⟩ := R.ob n _ _ q q2
      exact ⟨_, vs, rfl, q3, r⟩
    · cases e
  | _ => cases e
theorem asQ_ok {μ : List Addr} {F H : Hp} {h : Own} {v : V} {d : D} {ds : List D} (R : RelH ca μ F h H) (V1 : VR ca μ F v d) (e : asQ h d = some ds) : ∃ a vs, v = .ref a ∧ (H a = some (.lst vs) ∨ H a = some (.tup vs)) ∧ VRs ca μ F vs ds := by
  cases V1 with
  | tup q r => cases e; exact ⟨_, _, rfl, .inr (R.fz _ _ q), r⟩
  | lst q r => cases e; exact ⟨_, _, rfl, .inl (R.fz _ _ q), r⟩
  | ref q =>
    obtain ⟨a, vs, e1, e2, e3⟩ := asL_ok R (.ref q) (ds := ds) e
    exact ⟨a, vs, e1, .inl e2, e3⟩
  | _ => cases e
theorem SqQ {K : PySem.W.Frag} {H : Hp} {a : Addr} {vs : List V} (h : H a = some (.lst vs) ∨ H a = some (.tup vs)) : SqL K H a vs ∨ SqT K H a vs := h.elim (fun z => .inl (SqL.of z)) fun z => .inr (SqT.of z)
/-- a new frozen object -/
theorem fzNew {b : Nat} {μ : List Addr} {F H : Hp} {h : Own} (R : RelH ca μ F h H) {p : Addr} (hp : H p = none) (u : HO) : Ext b μ F H h μ (upd F p u) (upd H p u) h ∧ RelH ca μ (upd F p u) h (upd H p u) := by
  have hF : F p = none := by
    cases q : F p with
    | none => rfl
    | some w => have := R.fz _ _ q; rw [hp] at this; cases this
  have hm : p ∉ μ := fun z => R.dom p z hp
  exact ⟨((Ext.refl (b := b) (μ := μ) (F := F) (H := H) (h := h)).upd hp).freeze hp hF, (R.upd hp).freeze upd_same hm hF⟩
/-- a new object of nobody -/
theorem neNew {b : Nat} {μ : List Addr} {F H : Hp} {h : Own} (R : RelH ca μ F h H) {p : Addr} (hp : H p = none) (u : HO) {o : O} (ho : ∀ H', H' p = some u → OR ca μ F H' p o) :
    Ext b μ F H h μ F (upd H p u) h ∧ RelH ca μ F h (upd H p u) ∧ RR ca μ F H (upd H p u) (.ref p) (.n o) := by
  have hF : F p = none := by
    cases q : F p with
    | none => rfl
    | some w => have := R.fz _ _ q; rw [hp] at this; cases this
  have hm : p ∉ μ := fun z => R.dom p z hp
  exact ⟨(Ext.refl (b := b) (μ := μ) (F := F) (H := H) (h := h)).upd hp, R.upd hp, p, rfl, hp, (by rw [upd_same]; simp), hm, hF, ho _ upd_same⟩
/-- the wish at a new list -/
theorem new_lst {b : Nat} {μ : List Addr} {F H : Hp} {h : Own} {Wx : Nat → Hp → Prop} {Q : VK} {ds : List D} {vs : List V} (R : RelH ca μ F h H) (r : VRs ca μ F vs ds)
    (p : PostG ca b μ F H h (.ok (.n (.lst ds)) h) Wx fun r μ1 F1 H1 _ => ∀ v, RR ca μ1 F1 H H1 v r → Q v H1) {l : Addr} (hl : H l = none) : Q (.ref l) (upd H l (.lst vs)) := by
  obtain ⟨e, R1, w⟩ := neNew (b := b) R hl (.lst vs) (o := .lst ds) fun H' q => ⟨vs, q, r⟩
  exact p _ _ _ e R1 _ w
theorem new_tup {b : Nat} {μ : List Addr} {F H : Hp} {h : Own} {Wx : Nat → Hp → Prop} {Q : VK} {ds : List D} {vs : List V} (R : RelH ca μ F h H) (r : VRs ca μ F vs ds)
    (p : PostG ca b μ F H h (.ok (.v (.tup ds)) h) Wx fun r μ1 F1 H1 _ => ∀ v, RR ca μ1 F1 H H1 v r → Q v H1) {l : Addr} (hl : H l = none) : Q (.ref l) (upd H l (.tup vs)) := by
  obtain ⟨e, R1⟩ := fzNew (b := b) R hl (.tup vs)
  exact p _ _ _ e R1 _ (show VR ca _ _ _ _ from .tup upd_same (e.vrs r))

def f1 : F2 := fI fun i j => .int (i + j)
theorem lk_addI : Lk2 ca f1 (rI0 fun i j => .int (i + j)) := lkI fun i j _ _ => .int _
def fAddT : F2
  | .tup xs, .tup ys, h => if xs.length + ys.length ≤ sizeLine then .ok (.v (.tup (xs ++ ys))) h else .stuck
  | _, _, _ => .stuck
theorem lk_addT {K : PySem.W.Frag} : Lk2 ca fAddT (rCatA K) := by
  intro b μ F H h Wx x y c d Q R V1 V2 _ p
  cases V1 with
  | tup e1 r1 =>
    rename_i a vs xs
    cases V2 with
    | tup e2 r2 =>
      rename_i a2 vs2 ys
      have p' : PostG ca b μ F H h (if xs.length + ys.length ≤ sizeLine then .ok (.v (.tup (xs ++ ys))) h else .stuck) Wx (fun r μ1 F1 H1 _ => ∀ v, RR ca μ1 F1 H H1 v r → Q v H1) := p
      by_cases hC : xs.length + ys.length ≤ sizeLine
      · rw [if_pos hC] at p'
        refine ⟨a, a2, vs, vs2, rfl, rfl, SqT.of (R.fz _ _ e1), SqT.of (R.fz _ _ e2), by rw [r1.length, r2.length]; exact hC, fun z => ?_, fun _ z => ?_, fun _ _ l hl => new_tup R (r1.append r2) p' hl⟩
        · subst z
          cases r1
          exact p'.ok R _ (show VR ca _ _ _ _ from .tup e2 r2)
        · subst z
          cases r2
          refine p'.ok R _ (show VR ca _ _ _ _ from .tup e1 ?_)
          rw [List.append_nil]; exact r1
      · rw [if_neg hC] at p'
        exact p'.elim
    | _ => exact (show False from p).elim
  | _ => exact (show False from p).elim
def fAddS : F2
  | .str x, .str y, h => if x.length + y.length ≤ sizeLine then .ok (.v (.str (x ++ y))) h else .stuck
  | _, _, _ => .stuck
theorem lk_addS : Lk2 ca fAddS (fun x y H Q => ∃ i j, x = .str i ∧ y = .str j ∧ i.length + j.length ≤ sizeLine ∧ Q (.str (i ++ j)) H) := by
  intro b μ F H h Wx x y c d Q R V1 V2 _ p
  cases V1 with
  | str i =>
    cases V2 with
    | str j =>
      have p' : PostG ca b μ F H h (if i.length + j.length ≤ sizeLine then .ok (.v (.str (i ++ j))) h else .stuck) Wx (fun r μ1 F1 H1 _ => ∀ v, RR ca μ1 F1 H H1 v r → Q v H1) := p
      by_cases hC : i.length + j.length ≤ sizeLine
      · rw [if_pos hC] at p'
        exact ⟨_, _, rfl, rfl, hC, p'.ok R _ (.str _)⟩
      · rw [if_neg hC] at p'
        exact p'.elim
    | _ => exact (show False from p).elim
  | _ => exact (show False from p).elim
def fAddL : F2 := fun x y h => match asL h x, asL h y with
  | some xs, some ys => if xs.length + ys.length ≤ sizeLine then .ok (.n (.lst (xs ++ ys))) h else .stuck
  | _, _ => .stuck
theorem lk_addL : Lk2 ca fAddL rCat := by
  intro b μ F H h Wx x y c d Q R V1 V2 _ p
  unfold fAddL at p
  cases e1 : asL h c with
  | none => simp only [e1] at p; exact p.elim
  | some xs =>
    cases e2 : asL h d with
    | none => simp only [e1, e2] at p; exact p.elim
    | some ys =>
      simp only [e1, e2] at p
      obtain ⟨a, vs, rfl, q1, r1⟩ := asL_ok R V1 e1
      obtain ⟨a2, vs2, rfl, q2, r2⟩ := asL_ok R V2 e2
      by_cases hC : xs.length + ys.length ≤ sizeLine
      · rw [if_pos hC] at p
        exact ⟨a, a2, vs, vs2, rfl, rfl, q1, q2, by rw [r1.length, r2.length]; exact hC, fun l hl => new_lst R (r1.append r2) p hl⟩
      · rw [if_neg hC] at p
        exact p.elim
def orF (f g : F2) : F2 := fun x y h => match f x y h with | .stuck => g x y h | z => z
def fAdd : F2 := orF f1 (orF fAddT (orF fAddS fAddL))
theorem op_addA : OpR X (binaryOp .Add) (fun x y H Q => rI0 (fun i j => .int (i + j)) x y H Q ∨ rCatA X.K x y H Q ∨ (∃ i j, x = .str i ∧ y = .str j ∧ i.length + j.length ≤ sizeLine ∧ Q (.str (i ++ j)) H) ∨ rCat x y H Q) := op_add.or (op_catA.or (op_add_str.or op_cat))
theorem lk_add {K : PySem.W.Frag} : Lk2 ca fAdd (fun x y H Q => rI0 (fun i j => .int (i + j)) x y H Q ∨ rCatA K x y H Q ∨ (∃ i j, x = .str i ∧ y = .str j ∧ i.length + j.length ≤ sizeLine ∧ Q (.str (i ++ j)) H) ∨ rCat x y H Q) :=
  lk_addI.or (lk_addT.or (lk_addS.or lk_addL))
def fRep : F2 := fun x y h => match asL h x, y with
  | some xs, .int k => if -(2 ^ 63) ≤ k ∧ k < 2 ^ 63 ∧ xs.length * k.toNat ≤ sizeLine then .ok (.n (.lst (List.replicate k.toNat xs).flatten)) h else .stuck
  | _, _ => .stuck
theorem VRs.rep {μ : List Addr} {F : Hp} {vs : List V} {ds : List D} (r : VRs ca μ F vs ds) : ∀ k : Nat, VRs ca μ F (List.replicate k vs).flatten (List.replicate k ds).flatten
  | 0 => .nil
  | k + 1 => by
    rw [List.replicate_succ, List.replicate_succ, List.flatten_cons, List.flatten_cons]
    exact r.append (VRs.rep r k)

/-! ### what is equal -/
/-- data without dicts and objects, to a depth -/
def toP : Nat → D → Option PyData
  | _, .non => some .none
  | _, .bl b => some (.bool b)
  | _, .int i => some (.int i)
  | _, .str s => if PyData.strOk s = true then some (.str s) else none
  | 0, _ => none
  | k + 1, .tup ds => (ds.mapM (toP k)).map .tuple
  | k + 1, .lst ds => (ds.mapM (toP k)).map .list
  | _, _ => none
def toPh (h : Own) : D → Option PyData
  | .ref n => match h[n]? with
    | some (.lst ds) => (ds.mapM (toP 7)).map .list
    | _ => none
  | d => toP 8 d
theorem shape_ok : ∀ (k : Nat) (d : D) (p : PyData), toP k d = some p → p.canLay0 = true ∧ p.depth ≤ k := by
  intro k
  induction k with
  | zero =>
    intro d p e
    cases d with
    | str s =>
      rw [toP] at e
      by_cases q : PyData.strOk s = true
      · rw [if_pos q] at e; cases e; simp [PyData.canLay0, PyData.depth, q]
      · rw [if_neg q] at e; cases e
    | _ => simp [toP] at e <;> subst e <;> simp [PyData.canLay0, PyData.depth]
  | succ k ih =>
    have all : ∀ (ds : List D) (ps : List PyData), ds.mapM (toP k) = some ps → PyData.canLayAll0 ps = true ∧ PyData.depthAll ps ≤ k := by
      intro ds
      induction ds with
      | nil => intro ps e; simp at e; subst e; simp [PyData.canLayAll0, PyData.depthAll]
      | cons d ds ih2 =>
        intro ps e
        rw [List.mapM_cons] at e
        cases e1 : toP k d with
        | none => rw [e1] at e; cases e
        | some p =>
          cases e2 : ds.mapM (toP k) with
          | none => rw [e1, e2] at e; cases e
          | some ps' =>
            rw [e1, e2] at e
            have e' : p :: ps' = ps := Option.some.inj e
            subst e'
            obtain ⟨a1, a2⟩ := ih d p e1
            obtain ⟨b1, b2⟩ := ih2 ps' e2
            refine ⟨by simp [PyData.canLayAll0, a1, b1], ?_⟩
            simp only [PyData.depthAll]
            omega
    intro d p e
    cases d with
    | tup ds =>
      rw [toP] at e
      obtain ⟨ps, e1, rfl⟩ := Option.map_eq_some_iff.mp e
      obtain ⟨a, b⟩ := all ds ps e1
      exact ⟨by simp only [PyData.canLay0]; exact a, by simp only [PyData.depth]; omega⟩
    | lst ds =>
      rw [toP] at e
      obtain ⟨ps, e1, rfl⟩ := Option.map_eq_some_iff.mp e
      obtain ⟨a, b⟩ := all ds ps e1
      exact ⟨by simp only [PyData.canLay0]; exact a, by simp only [PyData.depth]; omega⟩
    | str s =>
      rw [toP] at e
      by_cases q : PyData.strOk s = true
      · rw [if_pos q] at e; cases e; simp [PyData.canLay0, PyData.depth, q]
      · rw [if_neg q] at e; cases e
    | _ => simp [toP] at e <;> subst e <;> simp [PyData.canLay0, PyData.depth]
theorem shaped_of {k : Nat} {d : D} {p : PyData} (e : toP k d = some p) (hk : k ≤ 64) : SeqAt.shaped p = true := by
  obtain ⟨a, b⟩ := shape_ok k d p e
  show (p.canLay0 && decide (p.depth ≤ 64)) = true
  rw [a, Bool.true_and]
  exact decide_eq_true (by omega)
theorem dp_ok {K : PySem.W.Frag} {μ : List Addr} {F H : Hp} (hF : Same F H) : ∀ (k : Nat) (d : D) (v : V) (p : PyData), VR ca μ F v d → toP k d = some p → Dp K H v p := by
  intro k
  induction k with
  | zero =>
    intro d v p r e
    cases r with
    | str s =>
      rw [toP] at e
      by_cases q : PyData.strOk s = true
      · rw [if_pos q] at e; cases e; exact .str s
      · rw [if_neg q] at e; cases e
    | non => cases e; exact .non
    | bl => cases e; exact .bl _
    | int => cases e; exact .int _
    | _ => cases e
  | succ k ih =>
    have all : ∀ (ds : List D) (vs : List V) (ps : List PyData), VRs ca μ F vs ds → ds.mapM (toP k) = some ps → DpAll K H vs ps := by
      intro ds
      induction ds with
      | nil => intro vs ps r e; cases r; simp at e; subst e; exact .nil
      | cons d ds ih2 =>
        intro vs ps r e
        rw [List.mapM_cons] at e
        cases r with
        | cons r1 r2 =>
        cases e1 : toP k d with
        | none => rw [e1] at e; cases e
        | some p =>
          cases e2 : ds.mapM (toP k) with
          | none => rw [e1, e2] at e; cases e
          | some ps' =>
            rw [e1, e2] at e
            have e' : p :: ps' = ps := Option.some.inj e
            subst e'
            exact .cons (ih _ _ _ r1 e1) (ih2 _ _ r2 e2)
    intro d v p r e
    cases r with
    | str s =>
      rw [toP] at e
      by_cases q : PyData.strOk s = true
      · rw [if_pos q] at e; cases e; exact .str s
      · rw [if_neg q] at e; cases e
    | non => cases e; exact .non
    | bl => cases e; exact .bl _
    | int => cases e; exact .int _
    | tup q r1 =>
      rw [toP] at e
      obtain ⟨ps, e1, rfl⟩ := Option.map_eq_some_iff.mp e
      exact .tup (SqT.of (hF _ _ q)) (all _ _ _ r1 e1)
    | lst q r1 =>
      rw [toP] at e
      obtain ⟨ps, e1, rfl⟩ := Option.map_eq_some_iff.mp e
      exact .lst (SqL.of (hF _ _ q)) (all _ _ _ r1 e1)
    | _ => cases e
theorem dpAll_ok {K : PySem.W.Frag} {μ : List Addr} {F H : Hp} (hF : Same F H) (k : Nat) : ∀ (ds : List D) (vs : List V) (ps : List PyData), VRs ca μ F vs ds → ds.mapM (toP k) = some ps → DpAll K H vs ps := by
  intro ds
  induction ds with
  | nil => intro vs ps r e; cases r; simp at e; subst e; exact .nil
  | cons d ds ih2 =>
    intro vs ps r e
    rw [List.mapM_cons] at e
    cases r with
    | cons r1 r2 =>
    cases e1 : toP k d with
    | none => rw [e1] at e; cases e
    | some p =>
      cases e2 : ds.mapM (toP k) with
      | none => rw [e1, e2] at e; cases e
      | some ps' =>
        rw [e1, e2] at e
        have e' : p :: ps' = ps := Option.some.inj e
        subst e'
        exact .cons (dp_ok hF k _ _ _ r1 e1) (ih2 _ _ r2 e2)
theorem dph_ok {K : PySem.W.Frag} {μ : List Addr} {F H : Hp} {h : Own} (R : RelH ca μ F h H) {d : D} {v : V} {p : PyData} (r : VR ca μ F v d) (e : toPh h d = some p) : Dp K H v p ∧ SeqAt.shaped p = true := by
  cases r with
  | ref q =>
    rename_i a n
    unfold toPh at e
    dsimp only at e
    split at e
    · rename_i ds q2
      obtain ⟨ps, e1, rfl⟩ := Option.map_eq_some_iff.mp e
      obtain ⟨vs, q3, r3⟩ := R.ob n _ _ q q2
      exact ⟨.lst (SqL.of q3) (dpAll_ok R.fz 7 ds vs ps r3 e1), shaped_of (k := 8) (d := .lst ds) (by rw [toP, e1]; rfl) (by decide)⟩
    · cases e
  | non => exact ⟨dp_ok (ca := ca) (μ := μ) R.fz 8 _ _ _ .non e, shaped_of (k := 8) e (by decide)⟩
  | bl b => exact ⟨dp_ok (ca := ca) (μ := μ) R.fz 8 _ _ _ (.bl b) e, shaped_of (k := 8) e (by decide)⟩
  | int b => exact ⟨dp_ok (ca := ca) (μ := μ) R.fz 8 _ _ _ (.int b) e, shaped_of (k := 8) e (by decide)⟩
  | str b => exact ⟨dp_ok (ca := ca) (μ := μ) R.fz 8 _ _ _ (.str b) e, shaped_of (k := 8) e (by decide)⟩
  | tup a b => exact ⟨dp_ok R.fz 8 _ _ _ (.tup a b) e, shaped_of (k := 8) e (by decide)⟩
  | lst a b => exact ⟨dp_ok R.fz 8 _ _ _ (.lst a b) e, shaped_of (k := 8) e (by decide)⟩
  | dK a b c => cases e
  | dT a b c => cases e
  | obj a b c => cases e
  | ro a => cases e
def fEqN (neg : Bool) : F2 := fun x y h => match toPh h x, toPh h y with
  | some p, some q => .ok (.v (.bl (if neg then !PyData.eqv p q else PyData.eqv p q))) h
  | _, _ => .stuck
def fEq : F2 := fEqN false
def fNe : F2 := fEqN true
theorem lk_eq {K : PySem.W.Frag} : Lk2 ca fEq (rEqD K) := by
  intro b μ F H h Wx x y c d Q R V1 V2 _ p
  unfold fEq fEqN at p
  cases e1 : toPh h c with
  | none => simp only [e1] at p; exact p.elim
  | some u =>
    cases e2 : toPh h d with
    | none => simp only [e1, e2] at p; exact p.elim
    | some w =>
      simp only [e1, e2] at p
      exact ⟨u, w, (dph_ok R V1 e1).1, (dph_ok R V2 e2).1, (dph_ok (K := K) R V1 e1).2, (dph_ok (K := K) R V2 e2).2, p.ok R _ (.bl _)⟩
theorem lk_ne {K : PySem.W.Frag} : Lk2 ca fNe (rNeD K) := by
  intro b μ F H h Wx x y c d Q R V1 V2 _ p
  unfold fNe fEqN at p
  cases e1 : toPh h c with
  | none => simp only [e1] at p; exact p.elim
  | some u =>
    cases e2 : toPh h d with
    | none => simp only [e1, e2] at p; exact p.elim
    | some w =>
      simp only [e1, e2] at p
      exact ⟨u, w, (dph_ok R V1 e1).1, (dph_ok R V2 e2).1, (dph_ok (K := K) R V1 e1).2, (dph_ok (K := K) R V2 e2).2, p.ok R _ (.bl _)⟩
end
end Z
set_option Elab.async false
set_option linter.all false
set_option maxRecDepth 100000
set_option maxHeartbeats 1000000
/-! Z4: in, is, subscripts, slices, tests, displays, attributes. -/
namespace Z
open PySem PySem.Spec L2
section
variable {ca : Cn} {X : Cx} {W : WF} {pos : Pos}
/-! ### keys of dicts -/
def asK : D → Option Key
  | .int i => some (.inl i)
  | .str s => some (.inr s)
  | _ => none
def asKs : D → Option (List Key)
  | .tup ds => ds.mapM asK
  | _ => none
def getD {κ : Type} [DecidableEq κ] (kds : List (κ × D)) (k : κ) : Option D := (kds.find? fun p => decide (p.1 = k)).map (·.2)
def putD {κ : Type} [DecidableEq κ] (kds : List (κ × D)) (k : κ) (d : D) : List (κ × D) :=
  if (kds.any fun p => decide (p.1 = k)) = true then kds.map (fun p => if p.1 = k then (p.1, d) else p) else kds ++ [(k, d)]
section
variable {κ : Type} [DecidableEq κ] {μ : List Addr} {F : Hp}
theorem vr_get : ∀ {kvs : List (κ × V)} {kds : List (κ × D)} (k : κ), kvs.map (·.1) = kds.map (·.1) → VRs ca μ F (kvs.map (·.2)) (kds.map (·.2)) →
    (getD kds k = none ∧ valV kvs k = none) ∨ ∃ v d, getD kds k = some d ∧ valV kvs k = some v ∧ VR ca μ F v d
  | [], [], k, _, _ => .inl ⟨rfl, rfl⟩
  | [], _ :: _, _, e, _ => by cases e
  | _ :: _, [], _, e, _ => by cases e
  | (a, v) :: kvs, (b, d) :: kds, k, e, r => by
    simp only [List.map_cons, List.cons.injEq] at e
    obtain ⟨e1, e2⟩ := e
    subst e1
    cases r with
    | cons r1 r2 =>
      by_cases hk : a = k
      · exact .inr ⟨v, d, by simp [getD, hk], by simp [valV, hk], r1⟩
      · rcases vr_get (kvs := kvs) (kds := kds) k e2 r2 with ⟨h1, h2⟩ | ⟨v', d', h1, h2, h3⟩
        · exact .inl ⟨by simpa [getD, List.find?_cons, hk] using h1, by simpa [valV, List.find?_cons, hk] using h2⟩
        · exact .inr ⟨v', d', by simpa [getD, List.find?_cons, hk] using h1, by simpa [valV, List.find?_cons, hk] using h2, h3⟩
theorem vr_any : ∀ {kvs : List (κ × V)} {kds : List (κ × D)} (k : κ), kvs.map (·.1) = kds.map (·.1) → (kvs.any fun p => decide (p.1 = k)) = kds.any fun p => decide (p.1 = k) := fun {kvs kds} k e => by
  have : ∀ {β : Type} (l : List (κ × β)), (l.any fun p => decide (p.1 = k)) = (l.map (·.1)).any fun p => decide (p = k) := fun l => by rw [List.any_map]; rfl
  rw [this, this, e]
theorem vr_repl : ∀ {kvs : List (κ × V)} {kds : List (κ × D)} (k : κ) {v : V} {d : D}, VR ca μ F v d → kvs.map (·.1) = kds.map (·.1) → VRs ca μ F (kvs.map (·.2)) (kds.map (·.2)) →
    VRs ca μ F ((kvs.map fun p => if p.1 = k then (p.1, v) else p).map (·.2)) ((kds.map fun p => if p.1 = k then (p.1, d) else p).map (·.2))
  | [], [], k, _, _, _, _, _ => .nil
  | [], _ :: _, _, _, _, _, e, _ => by cases e
  | _ :: _, [], _, _, _, _, e, _ => by cases e
  | (a, v0) :: kvs, (b, d0) :: kds, k, v, d, rv, e, r => by
    simp only [List.map_cons, List.cons.injEq] at e
    obtain ⟨e1, e2⟩ := e
    subst e1
    cases r with
    | cons r1 r2 =>
      have ih := vr_repl (kvs := kvs) (kds := kds) k rv e2 r2
      by_cases hk : a = k
      · simp only [List.map_cons, hk, if_pos]
        exact .cons rv ih
      · simp only [List.map_cons, if_neg hk]
        exact .cons r1 ih
theorem vr_put {kvs : List (κ × V)} {kds : List (κ × D)} (k : κ) {v : V} {d : D} (rv : VR ca μ F v d) (e : kvs.map (·.1) = kds.map (·.1)) (r : VRs ca μ F (kvs.map (·.2)) (kds.map (·.2))) :
    (putK kvs k v).map (·.1) = (putD kds k d).map (·.1) ∧ VRs ca μ F ((putK kvs k v).map (·.2)) ((putD kds k d).map (·.2)) := by
  unfold putK putD
  rw [vr_any k e]
  by_cases h : (kds.any fun p => decide (p.1 = k)) = true
  · rw [if_pos h, if_pos h]
    refine ⟨?_, vr_repl k rv e r⟩
    have : ∀ {β : Type} (l : List (κ × β)) (y : β), (l.map fun p => if p.1 = k then (p.1, y) else p).map (·.1) = l.map (·.1) := fun l y => by
      rw [List.map_map]
      exact List.map_congr_left fun p _ => by
        show (if p.1 = k then (p.1, y) else p).1 = p.1
        split <;> rfl
    rw [this, this, e]
  · rw [if_neg h, if_neg h]
    rw [List.map_append, List.map_append, List.map_append, List.map_append, e]
    exact ⟨rfl, r.append (.cons rv .nil)⟩
end
theorem asK_ok {μ : List Addr} {F : Hp} {v : V} {d : D} {k : Key} (r : VR ca μ F v d) (e : asK d = some k) : v = kV k := by
  cases r <;> simp [asK] at e <;> subst e <;> rfl
theorem asKs_go {μ : List Addr} {F : Hp} : ∀ {vs : List V} {ds : List D} {ks : List Key}, VRs ca μ F vs ds → ds.mapM asK = some ks → vs = ks.map kV
  | _, _, ks, .nil, e => by simp at e; subst e; rfl
  | _, d :: ds, ks, .cons r t, e => by
    rw [List.mapM_cons] at e
    cases e1 : asK d with
    | none => rw [e1] at e; cases e
    | some k =>
      cases e2 : ds.mapM asK with
      | none => rw [e1, e2] at e; cases e
      | some ks' =>
        rw [e1, e2] at e
        have e' : k :: ks' = ks := Option.some.inj e
        subst e'
        rw [asK_ok r e1, asKs_go t e2]
        rfl
theorem asKs_ok {μ : List Addr} {F H : Hp} (hF : Same F H) {v : V} {d : D} {ks : List Key} (r : VR ca μ F v d) (e : asKs d = some ks) : ∃ b, v = .ref b ∧ H b = some (.tup (ks.map kV)) := by
  cases r with
  | tup q r1 => exact ⟨_, rfl, by rw [hF _ _ q, asKs_go r1 e]⟩
  | _ => cases e
/-- a dict's content -/
inductive DC where
  | k (kds : List (Key × D)) | t (kds : List (List Key × D))
def asD (h : Own) : D → Option DC
  | .dK k => some (.k k)
  | .dT k => some (.t k)
  | .ref n => match h[n]? with
    | some (.dK k) => some (.k k)
    | some (.dT k) => some (.t k)
    | some (.lkK k) => some (.k k)
    | some (.lkT k) => some (.t k)
    | _ => none
  | _ => none
theorem asD_ok {μ : List Addr} {F H : Hp} {h : Own} {v : V} {d : D} {c : DC} (R : RelH ca μ F h H) (V1 : VR ca μ F v d) (e : asD h d = some c) : ∃ a, v = .ref a ∧ match c with
    | .k kds => ∃ kvs : List (Key × V), Rd H a (.dK kvs) ∧ kvs.map (·.1) = kds.map (·.1) ∧ VRs ca μ F (kvs.map (·.2)) (kds.map (·.2))
    | .t kds => ∃ kvs : List (List Key × V), Rd H a (.dT kvs) ∧ kvs.map (·.1) = kds.map (·.1) ∧ VRs ca μ F (kvs.map (·.2)) (kds.map (·.2)) := by
  cases V1 with
  | dK q k r => cases e; exact ⟨_, rfl, _, .inl (R.fz _ _ q), k, r⟩
  | dT q k r => cases e; exact ⟨_, rfl, _, .inl (R.fz _ _ q), k, r⟩
  | ref q =>
    rename_i a n
    unfold asD at e
    dsimp only at e
    split at e
    · rename_i ds' q2
      cases e
      obtain ⟨kvs, w1, w2⟩ := R.ob n _ _ q q2
      exact ⟨a, rfl, kvs, .inl w1, w2⟩
    · rename_i ds' q2
      cases e
      obtain ⟨kvs, w1, w2⟩ := R.ob n _ _ q q2
      exact ⟨a, rfl, kvs, .inl w1, w2⟩
    · rename_i ds' q2
      cases e
      obtain ⟨od, kvs, w1, w2⟩ := R.ob n _ _ q q2
      exact ⟨a, rfl, kvs, .inr ⟨od, w1⟩, w2⟩
    · rename_i ds' q2
      cases e
      obtain ⟨od, kvs, w1, w2⟩ := R.ob n _ _ q q2
      exact ⟨a, rfl, kvs, .inr ⟨od, w1⟩, w2⟩
    · cases e
  | _ => cases e
/-- a dict's answer at a key: none: no answer; some none: not there -/
def askD (h : Own) (d k : D) : Option (Option D) := match asD h d with
  | some (.k kds) => (asK k).map (getD kds)
  | some (.t kds) => (asKs k).map (getD kds)
  | none => none
def ROpt (ca : Cn) (μ : List Addr) (F : Hp) (ov : Option V) : Option D → Prop
  | none => ov = none
  | some d => ∃ w, ov = some w ∧ VR ca μ F w d
theorem askD_ok {μ : List Addr} {F H : Hp} {h : Own} {v y : V} {d k : D} {o : Option D} (R : RelH ca μ F h H) (V1 : VR ca μ F v d) (V2 : VR ca μ F y k) (e : askD h d k = some o) :
    ∃ a ov, v = .ref a ∧ DGet H a y ov ∧ ROpt ca μ F ov o := by
  unfold askD at e
  cases e1 : asD h d with
  | none => simp only [e1] at e; cases e
  | some c =>
    obtain ⟨a, rfl, hc⟩ := asD_ok R V1 e1
    cases c with
    | k kds =>
      simp only [e1] at e
      obtain ⟨kvs, q1, q2, q3⟩ := hc
      obtain ⟨kk, ek, rfl⟩ := Option.map_eq_some_iff.mp e
      have ey := asK_ok V2 ek
      subst ey
      refine ⟨a, valV kvs kk, rfl, .inl ⟨kvs, kk, q1, rfl, rfl⟩, ?_⟩
      rcases vr_get kk q2 q3 with ⟨h1, h2⟩ | ⟨v', d', h1, h2, h3⟩
      · rw [h1]; exact h2
      · rw [h1]; exact ⟨v', h2, h3⟩
    | t kds =>
      simp only [e1] at e
      obtain ⟨kvs, q1, q2, q3⟩ := hc
      obtain ⟨kk, ek, rfl⟩ := Option.map_eq_some_iff.mp e
      obtain ⟨b, rfl, hb⟩ := asKs_ok R.fz V2 ek
      refine ⟨a, valV kvs kk, rfl, .inr ⟨kvs, kk, b, q1, rfl, hb, rfl⟩, ?_⟩
      rcases vr_get kk q2 q3 with ⟨h1, h2⟩ | ⟨v', d', h1, h2, h3⟩
      · rw [h1]; exact h2
      · rw [h1]; exact ⟨v', h2, h3⟩
/-! ### in, not in -/
def flatD : D → Bool
  | .non => true
  | .bl _ => true
  | .int _ => true
  | .str _ => true
  | _ => false
def eqD : D → D → Bool
  | .non, .non => true
  | .bl a, .bl b => a == b
  | .bl a, .int b => (if a then 1 else 0) == b
  | .int a, .bl b => a == (if b then 1 else 0)
  | .int a, .int b => a == b
  | .str a, .str b => a == b
  | _, _ => false
theorem flat_ok {μ : List Addr} {F : Hp} {v : V} {d : D} (r : VR ca μ F v d) (e : flatD d = true) : flatV v = true := by
  cases r <;> first | rfl | (exact (Bool.false_ne_true e).elim)
theorem eqD_ok {μ : List Addr} {F : Hp} {v w : V} {d c : D} (r : VR ca μ F v d) (r2 : VR ca μ F w c) (e : flatD d = true) (e2 : flatD c = true) : eqV v w = eqD d c := by
  cases r <;> first | (exact (Bool.false_ne_true e).elim) | (cases r2 <;> first | rfl | (exact (Bool.false_ne_true e2).elim))
theorem flats_ok {μ : List Addr} {F : Hp} : ∀ {vs : List V} {ds : List D}, VRs ca μ F vs ds → ds.all flatD = true → vs.all flatV = true
  | _, _, .nil, _ => rfl
  | _, _, .cons r t, e => by
    rw [List.all_cons, Bool.and_eq_true] at e ⊢
    exact ⟨flat_ok r e.1, flats_ok t e.2⟩
theorem inD_ok {μ : List Addr} {F : Hp} {v : V} {d : D} (r : VR ca μ F v d) (e : flatD d = true) : ∀ {vs : List V} {ds : List D}, VRs ca μ F vs ds → ds.all flatD = true → inV v vs = ds.any fun y => eqD y d
  | _, _, .nil, _ => rfl
  | _, _, .cons r1 t, e1 => by
    rw [List.all_cons, Bool.and_eq_true] at e1
    unfold inV
    rw [List.any_cons, List.any_cons, eqD_ok r1 r e1.1 e, ← inD_ok r e t e1.2]
    rfl
/-- flat data in a list or tuple of such -/
def fInQ (neg : Bool) : F2 := fun x y h => match asQ h y with
  | some ds => if flatD x = true ∧ ds.all flatD = true then .ok (.v (.bl (if neg then !(ds.any fun z => eqD z x) else ds.any fun z => eqD z x))) h else .stuck
  | none => .stuck
theorem lk_inQ {K : PySem.W.Frag} (neg : Bool) : Lk2 ca (fInQ neg) (rIn K neg) := by
  intro b μ F H h Wx x y c d Q R V1 V2 _ p
  unfold fInQ at p
  cases e1 : asQ h d with
  | none => simp only [e1] at p; exact p.elim
  | some ds =>
    simp only [e1] at p
    obtain ⟨a, vs, rfl, q, r⟩ := asQ_ok R V2 e1
    by_cases hC : flatD c = true ∧ ds.all flatD = true
    · rw [if_pos hC] at p
      refine ⟨a, vs, rfl, SqQ q, flat_ok V1 hC.1, flats_ok r hC.2, ?_⟩
      rw [inD_ok V1 hC.1 r hC.2]
      exact p.ok R _ (.bl _)
    · rw [if_neg hC] at p
      exact p.elim
/-- any data in a list -/
def fInD (neg : Bool) : F2 := fun x y h => match toPh h x, toPh h y with
  | some p, some (.list ps) => .ok (.v (.bl (if neg then !(ps.any fun z => PyData.eqv z p) else ps.any fun z => PyData.eqv z p))) h
  | _, _ => .stuck
theorem lk_inD {K : PySem.W.Frag} : Lk2 ca (fInD false) (rInD K) := by
  intro b μ F H h Wx x y c d Q R V1 V2 _ p
  unfold fInD at p
  split at p
  · rename_i u ps e1 e2
    exact ⟨u, ps, (dph_ok R V1 e1).1, (dph_ok R V2 e2).1, (dph_ok (K := K) R V1 e1).2, (dph_ok (K := K) R V2 e2).2, p.ok R _ (.bl _)⟩
  · exact p.elim
theorem lk_notInD {K : PySem.W.Frag} : Lk2 ca (fInD true) (rNotInD K) := by
  intro b μ F H h Wx x y c d Q R V1 V2 _ p
  unfold fInD at p
  split at p
  · rename_i u ps e1 e2
    exact ⟨u, ps, (dph_ok R V1 e1).1, (dph_ok R V2 e2).1, (dph_ok (K := K) R V1 e1).2, (dph_ok (K := K) R V2 e2).2, p.ok R _ (.bl _)⟩
  · exact p.elim
/-- a key in a dict -/
def fInK (neg : Bool) : F2 := fun x y h => match askD h y x with
  | some o => .ok (.v (.bl (if neg then !o.isSome else o.isSome))) h
  | none => .stuck
def rInK (neg : Bool) : R2 := fun y x H Q => ∃ a o, x = .ref a ∧ DGet H a y o ∧ Q (.bl (if neg then !o.isSome else o.isSome)) H
theorem op_inK (hu : X.A.units + 1 < cLine) : OpR X (compareOp .In) (rInK false) := by
  intro pins s σ H x y v u Q I rx ry ⟨a, o, e, g, q⟩
  subst e
  cases ry
  exact d_in hu I g rx fun s' I' => ⟨.bl o.isSome, H, I', rfl, q⟩
theorem op_notInK (hu : X.A.units + 1 < cLine) : OpR X (compareOp .NotIn) (rInK true) := by
  intro pins s σ H x y v u Q I rx ry ⟨a, o, e, g, q⟩
  subst e
  cases ry
  exact d_notIn hu I g rx fun s' I' => ⟨.bl (!o.isSome), H, I', rfl, q⟩
theorem lk_inK (neg : Bool) : Lk2 ca (fInK neg) (rInK neg) := by
  intro b μ F H h Wx x y c d Q R V1 V2 _ p
  unfold fInK at p
  cases e1 : askD h d c with
  | none => simp only [e1] at p; exact p.elim
  | some o =>
    simp only [e1] at p
    obtain ⟨a, ov, rfl, g, ho⟩ := askD_ok R V2 V1 e1
    refine ⟨a, ov, rfl, g, ?_⟩
    have : ov.isSome = o.isSome := by
      cases o with
      | none => rw [show ov = none from ho]; rfl
      | some d => obtain ⟨w, e, _⟩ := ho; rw [e]; rfl
    rw [this]
    exact p.ok R _ (.bl _)
def fIn : F2 := orF (fInQ false) (orF (fInK false) (fInD false))
def fNotIn : F2 := orF (fInQ true) (orF (fInK true) (fInD true))
theorem op_in (hu : X.A.units + 65 < cLine) : OpR X (compareOp .In) (fun x y H Q => rIn X.K false x y H Q ∨ rInK false x y H Q ∨ rInD X.K x y H Q) := op_in_seq.or ((op_inK (by omega)).or (op_inD hu))
theorem op_notIn (hu : X.A.units + 65 < cLine) : OpR X (compareOp .NotIn) (fun x y H Q => rIn X.K true x y H Q ∨ rInK true x y H Q ∨ rNotInD X.K x y H Q) := op_notIn_seq.or ((op_notInK (by omega)).or (op_notInD hu))
theorem lk_in {K : PySem.W.Frag} : Lk2 ca fIn (fun x y H Q => rIn K false x y H Q ∨ rInK false x y H Q ∨ rInD K x y H Q) := (lk_inQ false).or ((lk_inK false).or lk_inD)
theorem lk_notIn {K : PySem.W.Frag} : Lk2 ca fNotIn (fun x y H Q => rIn K true x y H Q ∨ rInK true x y H Q ∨ rNotInD K x y H Q) := (lk_inQ true).or ((lk_inK true).or lk_notInD)
end
end Z
set_option Elab.async false
set_option linter.all false
set_option maxRecDepth 100000
set_option maxHeartbeats 1000000
/-! Z5: is, subscripts, slices, tests, displays, attributes. -/
namespace Z
open PySem PySem.Spec L2
section
variable {ca : Cn} {X : Cx} {W : WF} {pos : Pos} {e a b c : Expr}
/-! ### one value -/
abbrev F1 := D → Own → Res R
def Lk1 (ca : Cn) (f : F1) (r : V → Hp → VK → Prop) : Prop := ∀ (b : Nat) (μ : List Addr) (F H : Hp) (h : Own) (Wx : Nat → Hp → Prop) (x : V) (c : D) (Q : VK), RelH ca μ F h H → VR ca μ F x c → b ≤ h.length →
  PostG ca b μ F H h (f c h) Wx (fun r μ1 F1 H1 _ => ∀ v, RR ca μ1 F1 H H1 v r → Q v H1) → r x H Q
def e1 (f : F1) (a : ED) : EX := fun τ h => (a τ h).bind fun x h1 => f x h1
theorem lk_un {f : F1} {r : V → Hp → VK → Prop} {ta : ED} (lk : Lk1 ca f r) : ∀ σ H Q, rdE ca W (e1 f ta) σ H Q → rdD ca W ta σ H fun x H1 => r x H1 Q := fun σ H Q ⟨μ, F, τ, h, A, p⟩ =>
  ⟨μ, F, τ, h, A, p.bind.imp fun c μ1 F1 H1 h1 E1 R1 q v V => lk τ.b μ1 F1 H1 h1 _ v c Q R1 V (Nat.le_trans A.bl (E1.len A.rel R1)) (q.imp fun r μ3 F3 H3 h3 E3 R3 q3 u V3 => q3 u (RR.back E1 V3))⟩
theorem se_un {op : UnaryOp} {f : F1} {r : V → Hp → VK → Prop} {ta : ED} (ho : UnR X (unaryOp op) r) (lk : Lk1 ca f r) (ha : SD ca X W a ta) : SE ca X W (.UnaryOp op a pos) (e1 f ta) := PE.imp (pe_un ho ha) (lk_un lk)
def fNeg : F1
  | .int i, h => .ok (.v (.int (-i))) h
  | _, _ => .stuck
def fInv : F1
  | .int i, h => .ok (.v (.int (Builtin.bitNot i))) h
  | _, _ => .stuck
theorem lk_neg : Lk1 ca fNeg (rU fun i => .int (-i)) := by
  intro b μ F H h Wx x c Q R V1 _ p
  cases V1 with
  | int i => exact ⟨i, rfl, p.ok R _ (.int _)⟩
  | _ => exact (show False from p).elim
theorem lk_inv : Lk1 ca fInv (rU fun i => .int (Builtin.bitNot i)) := by
  intro b μ F H h Wx x c Q R V1 _ p
  cases V1 with
  | int i => exact ⟨i, rfl, p.ok R _ (.int _)⟩
  | _ => exact (show False from p).elim
/-- not x, of a bool, as a value -/
def fNotB : F1
  | .bl i, h => .ok (.v (.bl (!i))) h
  | _, _ => .stuck
theorem se_not {ta : ED} (ha : SD ca X W a ta) : SE ca X W (.UnaryOp .Not a pos) (e1 fNotB ta) := PE.imp (pe_not ha) (lk_un (r := fun x H1 Q => ∃ c, x = .bl c ∧ Q (.bl (!c)) H1) (by
  intro b μ F H h Wx x c Q R V1 _ p
  cases V1 with
  | bl i => exact ⟨i, rfl, p.ok R _ (.bl _)⟩
  | _ => exact (show False from p).elim))
/-- is None, is not None -/
def isN : D → Bool
  | .non => true
  | _ => false
def fIsN (neg : Bool) : F1 := fun x h => .ok (.v (.bl (if neg then !isN x else isN x))) h
theorem isN_ok {μ : List Addr} {F : Hp} {v : V} {d : D} (r : VR ca μ F v d) : decide (v = .non) = isN d := by
  cases r <;> first | rfl | exact decide_eq_false (fun z => nomatch z)
theorem se_isN {j pos'} {ta : ED} (ha : SD ca X W a ta) : SE ca X W (.Compare a [.Is] [.Constant .none j pos'] pos) (e1 (fIsN false) ta) := PE.imp (pe_cmp (pc_isN ha)) (lk_un (r := fun x H1 Q => Q (.bl (decide (x = .non))) H1) (by
  intro b μ F H h Wx x c Q R V1 _ p
  show Q _ _
  rw [isN_ok V1]
  exact p.ok R _ (.bl _)))
theorem se_notN {j pos'} {ta : ED} (ha : SD ca X W a ta) : SE ca X W (.Compare a [.IsNot] [.Constant .none j pos'] pos) (e1 (fIsN true) ta) := PE.imp (pe_cmp (pc_notN ha)) (lk_un (r := fun x H1 Q => Q (.bl (!decide (x = .non))) H1) (by
  intro b μ F H h Wx x c Q R V1 _ p
  show Q _ _
  rw [isN_ok V1]
  exact p.ok R _ (.bl _)))
/-! ### subscripts -/
def fIxQ : F2 := fun x y h => match asQ h x, y with
  | some ds, .int i => match atI ds i with
    | some d => .ok (.v d) h
    | none => .stuck
  | _, _ => .stuck
theorem VRs.atI {μ : List Addr} {F : Hp} {vs : List V} {ds : List D} {i : Int} {d : D} (r : VRs ca μ F vs ds) (e : L2.atI ds i = some d) : ∃ v, L2.atI vs i = some v ∧ VR ca μ F v d := by
  unfold L2.atI at e ⊢
  rw [r.length]
  obtain ⟨j, ej, ed⟩ := Option.bind_eq_some_iff.mp e
  rw [ej]
  exact r.get ed
theorem lk_ixQ {K : PySem.W.Frag} : Lk2 ca fIxQ (fun x y H Q => rIxL K x y H Q ∨ rIxT K x y H Q) := by
  intro b μ F H h Wx x y c d Q R V1 V2 _ p
  unfold fIxQ at p
  cases e1 : asQ h c with
  | none => simp only [e1] at p; exact p.elim
  | some ds =>
    obtain ⟨a, vs, rfl, q, r⟩ := asQ_ok R V1 e1
    cases V2 with
    | int i =>
      simp only [e1] at p
      cases e2 : L2.atI ds i with
      | none => simp only [e2] at p; exact p.elim
      | some z =>
        simp only [e2] at p
        obtain ⟨v, hv, rv⟩ := r.atI e2
        rcases q with q | q
        · exact .inl ⟨a, vs, i, v, rfl, rfl, SqL.of q, hv, p.ok R _ rv⟩
        · exact .inr ⟨a, vs, i, v, rfl, rfl, SqT.of q, hv, p.ok R _ rv⟩
    | _ => simp only [e1] at p; exact p.elim
def fIxS : F2
  | .str z, .int i, h => if z.length ≤ sizeLine then match atI z.cps.toList i with
    | some c => .ok (.v (.str ⟨#[c]⟩)) h
    | none => .stuck else .stuck
  | _, _, _ => .stuck
theorem lk_ixS : Lk2 ca fIxS rIxS := by
  intro b μ F H h Wx x y c d Q R V1 V2 _ p
  cases V1 with
  | str z =>
    cases V2 with
    | int i =>
      have p' : PostG ca b μ F H h (if z.length ≤ sizeLine then match atI z.cps.toList i with | some c => .ok (.v (.str ⟨#[c]⟩)) h | none => .stuck else .stuck) Wx (fun r μ1 F1 H1 _ => ∀ v, RR ca μ1 F1 H H1 v r → Q v H1) := p
      by_cases hC : z.length ≤ sizeLine
      · rw [if_pos hC] at p'
        cases e2 : atI z.cps.toList i with
        | none => rw [e2] at p'; exact p'.elim
        | some c =>
          rw [e2] at p'
          exact ⟨z, i, c, rfl, rfl, hC, e2, p'.ok R _ (.str _)⟩
      · rw [if_neg hC] at p'
        exact p'.elim
    | _ => exact (show False from p).elim
  | _ => exact (show False from p).elim
def fIxD : F2 := fun x y h => match askD h x y with
  | some (some d) => .ok (.v d) h
  | _ => .stuck
def rIxD : R2 := fun x y H Q => ∃ a v, x = .ref a ∧ DGet H a y (some v) ∧ Q v H
open PyProof.Rows in
theorem ix_dict (hu : X.A.units + 1 < cLine) : IxR X rIxD := by
  intro value slice pins s σ H x y v u Q I rx ry ⟨a, z, e, g, q⟩ hs
  subst e
  obtain rfl : v = Value.ref a := rx
  have hT := dict_typeIs I g
  unfold subscriptTail
  refine wpAny_bind ?_
  rw [getitemInPython_of_ne hT.not_modules]
  refine wpAny_bind (wpAny_specialOf hT PySem.F.slot_dict_getitem.lookup ?_)
  have h₂ : wpAny (model X.prog X.w) X.A (getItem (.ref a) u) (EP X pins σ Q) X.xe s := d_getItem hu I g ry fun w' s' I' rw' => ⟨z, H, I', rw', q⟩
  have fin : wpAny (model X.prog X.w) X.A (subscripted slice false (.ref a) u) (fun r s₃ => wpAny (model X.prog X.w) X.A (letTemporaryGo value (.ref a) r >>= fun _ => pure r) (EP X pins σ Q) X.xe s₃) X.xe s := by
    rw [hs]
    exact wpAny_operating (wpAny_mono h₂ (fun r s₃ h₃ => wpAny_bind (wpAny_letTemporaryGo (wpAny_pure h₃))) fun _ _ x => x)
  first
    | exact wpAny_pure (wpAny_bind fin)
    | exact wpAny_bind (wpAny_pure (wpAny_bind fin))
    | exact wpAny_bind fin
theorem lk_ixD : Lk2 ca fIxD rIxD := by
  intro b μ F H h Wx x y c d Q R V1 V2 _ p
  unfold fIxD at p
  split at p
  · rename_i z e1
    obtain ⟨a, ov, rfl, g, w, e, r⟩ := askD_ok R V1 V2 e1
    subst e
    exact ⟨a, w, rfl, g, p.ok R _ r⟩
  · exact p.elim
def fIx : F2 := orF fIxQ (orF fIxS fIxD)
theorem ix_any (hu : X.A.units + 1 < cLine) : IxR X (fun x y H Q => (rIxL X.K x y H Q ∨ rIxT X.K x y H Q) ∨ rIxS x y H Q ∨ rIxD x y H Q) := (ix_list.or ix_tup).or (ix_str.or (ix_dict hu))
theorem lk_ix {K : PySem.W.Frag} : Lk2 ca fIx (fun x y H Q => (rIxL K x y H Q ∨ rIxT K x y H Q) ∨ rIxS x y H Q ∨ rIxD x y H Q) := lk_ixQ.or (lk_ixS.or lk_ixD)
theorem se_ix {ta tb : ED} (hu : X.A.units + 1 < cLine) (ha : SD ca X W a ta) (hb : SD ca X W b tb) (hs : PlainIx b) : SE ca X W (.Subscript a b pos) (e2 fIx ta tb) := PE.imp (pe_ix (ix_any hu) ha hb hs) (lk_op lk_ix)
end
end Z
set_option Elab.async false
set_option linter.all false
set_option maxRecDepth 100000
set_option maxHeartbeats 1000000
/-! Z6: slices, tests, displays, attributes. -/
namespace Z
open PySem PySem.Spec L2
section
variable {ca : Cn} {X : Cx} {W : WF} {pos : Pos} {e a b c : Expr}
/-! ### slices -/
abbrev EO := Fm → Own → Res (Option Int)
def oNone : EO := fun _ h => .ok none h
def oSome (x : ED) : EO := fun τ h => (x τ h).bind fun d h1 => match d with
  | .int i => .ok (some i) h1
  | _ => .stuck
def rdO (ca : Cn) (W : WF) (x : EO) : TO := fun σ H Q => ∃ μ F τ h, At ca μ F τ h σ H ∧ PostG ca τ.b μ F H h (x τ h) (wx ca W σ) fun o _ _ H1 _ => Q o H1
def SO (ca : Cn) (X : Cx) (W : WF) (e : Option Expr) (x : EO) : Prop := PO X e (rdO ca W x)
theorem so_none : SO ca X W none oNone := ⟨fun pins s σ H Q I ⟨μ, F, τ, h, A, p⟩ => po_none.run pins s σ H Q I (p.ok A.rel)⟩
theorem so_some {x : ED} (hx : SD ca X W e x) : SO ca X W (some e) (oSome x) := ⟨fun pins s σ H Q I ⟨μ, F, τ, h, A, p⟩ => (po_some hx).run pins s σ H Q I ⟨μ, F, τ, h, A, p.bind.imp fun d μ1 F1 H1 h1 E1 R1 q v V => by
  cases V with
  | int i => exact ⟨i, rfl, q.ok R1⟩
  | _ => exact (show False from q).elim⟩⟩
def cutD (xs : List D) (lo hi : Option Int) : List D := (xs.drop (HT.sIx xs.length 0 lo)).take (HT.sIx xs.length xs.length hi - HT.sIx xs.length 0 lo)
theorem VRs.cut {μ : List Addr} {F : Hp} {vs : List V} {ds : List D} (r : VRs ca μ F vs ds) (lo hi : Option Int) : VRs ca μ F (cutV vs lo hi) (cutD ds lo hi) := by
  unfold cutV cutD
  rw [r.length]
  exact (r.drop _).take _
def fSl (x : D) (lo hi : Option Int) (h : Own) : Res R := match x with
  | .tup ds => .ok (.v (.tup (cutD ds lo hi))) h
  | x => match asL h x with
    | some ds => .ok (.n (.lst (cutD ds lo hi))) h
    | none => .stuck
def eSl (x : ED) (lo hi : EO) : EX := fun τ h => (x τ h).bind fun d h1 => (lo τ h1).bind fun l h2 => (hi τ h2).bind fun u h3 => fSl d l u h3
theorem sIx_of (n d : Nat) (o : Option Int) : True := trivial
theorem se_sl {x : ED} {lo hi : EO} {el eh : Option Expr} {p2 : Pos} (hx : SD ca X W e x) (hl : SO ca X W el lo) (hh : SO ca X W eh hi) : SE ca X W (.Subscript e (.Slice el eh none p2) pos) (eSl x lo hi) := by
  refine PE.imp (pe_slice (sl_tupA.or sl_list) hx hl hh) fun σ H Q ⟨μ, F, τ, h, A, p⟩ => ⟨μ, F, τ, h, A, p.bind.imp fun d μ1 F1 H1 h1 E1 R1 q v V => ⟨μ1, F1, τ, h1, A.ext E1 R1, q.bind.imp fun l μ2 F2 H2 h2 E2 R2 q2 => ⟨μ2, F2, τ, h2, (A.ext E1 R1).ext E2 R2, q2.bind.imp fun u μ3 F3 H3 h3 E3 R3 q3 => ?_⟩⟩⟩
  have q4 : PostG ca τ.b μ3 F3 H3 h3 (fSl d l u h3) (wx ca W σ) fun r μ4 F4 H4 _ => ∀ v, RR ca μ4 F4 H3 H4 v r → Q v H4 := q3.imp fun r μ4 F4 H4 h4 E4 R4 q5 w V5 => q5 w (RR.back E1 (RR.back E2 (RR.back E3 V5)))
  have V3 := E3.vr (E2.vr V)
  unfold fSl at q4
  cases V3 with
  | @tup a vs ds qt r =>
    dsimp only at q4
    refine .inl ⟨a, vs, rfl, SqT.of (R3.fz _ _ qt), fun hw => ?_, fun _ l hl => new_tup R3 (r.cut _ _) q4 hl⟩
    have ew : cutD ds l u = ds := by
      unfold cutD
      rw [← r.length, hw.1, hw.2, r.length]
      simp
    rw [ew] at q4
    exact q4.ok R3 _ (show VR ca _ _ _ _ from .tup qt r)
  | _ =>
    dsimp only at q4
    split at q4
    · rename_i ds e1
      obtain ⟨a, vs, ev, qq, r⟩ := asL_ok R3 (E3.vr (E2.vr V)) e1
      exact .inr ⟨a, vs, ev, SqL.of qq, fun l hl => new_lst R3 (r.cut _ _) q4 hl⟩
    · exact q4.elim
/-! ### tests -/
/-- an outcome that is True or False -/
def eTB (x : EX) : EB := fun τ h => (x τ h).bind fun r h1 => match r with
  | .v (.bl k) => .ok k h1
  | _ => .stuck
theorem tb_rd {x : EX} {σ : L2.St} {H : Hp} {Q : Bool → Hp → Prop} : rdB ca W (eTB x) σ H Q → rdE ca W x σ H fun x H' => ∃ k, x = .bl k ∧ Q k H' := fun ⟨μ, F, τ, h, A, p⟩ => ⟨μ, F, τ, h, A, p.bind.imp fun r μ1 F1 H1 h1 E1 R1 q v V => by
  cases r with
  | n o => exact (show False from q).elim
  | v d =>
    have V' : VR ca μ1 F1 v d := V
    cases V' with
    | bl k => exact ⟨k, rfl, q.ok R1⟩
    | _ => exact (show False from q).elim⟩
theorem sb_cmp {op : CmpOp} {f : F2} {r : R2} {ta tb : ED} (ho : OpR X (compareOp op) r) (lk : Lk2 ca f r) (ha : SD ca X W a ta) (hb : SD ca X W b tb) (hm : behindInMarks op b = false) : SB ca X W (.Compare a [op] [b] pos) (eTB (e2 f ta tb)) :=
  PT.imp (pt_cmpR ho ha hb hm) fun σ H Q q => lk_op lk σ H _ (tb_rd q)
theorem sb_isN {j pos'} {ta : ED} (ha : SD ca X W a ta) : SB ca X W (.Compare a [.Is] [.Constant .none j pos'] pos) (eTB (e1 (fIsN false) ta)) := PT.imp (pt_cmp (pc_isN ha)) fun σ H Q q => lk_un (r := fun x H1 Q => Q (.bl (decide (x = .non))) H1) (by
  intro b μ F H h Wx x c Q R V1 _ p
  show Q _ _
  rw [isN_ok V1]
  exact p.ok R _ (.bl _)) σ H _ (tb_rd q)
theorem sb_notN {j pos'} {ta : ED} (ha : SD ca X W a ta) : SB ca X W (.Compare a [.IsNot] [.Constant .none j pos'] pos) (eTB (e1 (fIsN true) ta)) := PT.imp (pt_cmp (pc_notN ha)) fun σ H Q q => lk_un (r := fun x H1 Q => Q (.bl (!decide (x = .non))) H1) (by
  intro b μ F H h Wx x c Q R V1 _ p
  show Q _ _
  rw [isN_ok V1]
  exact p.ok R _ (.bl _)) σ H _ (tb_rd q)
/-- a op b op' c -/
def eCh (f g : F2) (a b c : ED) : EX := fun τ h => (a τ h).bind fun x h1 => (b τ h1).bind fun y h2 => (f x y h2).bind fun r h3 => match r with
  | .v (.bl true) => (c τ h3).bind fun z h4 => g y z h4
  | .v (.bl false) => .ok (.v (.bl false)) h3
  | _ => .stuck
theorem ch_rd {f g : F2} {r r' : R2} {ta tb tc : ED} (lk : Lk2 ca f r) (lk' : Lk2 ca g r') {σ : L2.St} {H : Hp} {Q : VK} : rdE ca W (eCh f g ta tb tc) σ H Q → tChain r r' (rdD ca W ta) (rdD ca W tb) (rdD ca W tc) σ H Q := fun ⟨μ, F, τ, h, A, p⟩ =>
  ⟨μ, F, τ, h, A, p.bind.imp fun d μ1 F1 H1 h1 E1 R1 q v V => ⟨μ1, F1, τ, h1, A.ext E1 R1, q.bind.imp fun d2 μ2 F2 H2 h2 E2 R2 q2 v2 V2 => by
    have A2 := (A.ext E1 R1).ext E2 R2
    refine lk τ.b μ2 F2 H2 h2 (wx ca W σ) v v2 d d2 _ R2 (E2.vr V) V2 A2.bl (q2.bind.imp fun r3 μ3 F3 H3 h3 E3 R3 q3 v3 V3 => ?_)
    cases r3 with
    | n o => exact (show False from q3).elim
    | v d3 =>
      have V' : VR ca μ3 F3 v3 d3 := V3
      cases V' with
      | bl k =>
        refine ⟨k, rfl, ?_⟩
        cases k with
        | false => exact q3.ok R3 (.bl false) (show VR ca _ _ _ _ from .bl false)
        | true =>
          have A3 := A2.ext E3 R3
          refine ⟨μ3, F3, τ, h3, A3, q3.bind.imp fun d4 μ4 F4 H4 h4 E4 R4 q4 v4 V4 => ?_⟩
          exact lk' τ.b μ4 F4 H4 h4 (wx ca W σ) v2 v4 d2 d4 Q R4 (E4.vr (E3.vr V2)) V4 (A3.ext E4 R4).bl (q4.imp fun r5 μ5 F5 H5 h5 E5 R5 q5 u V5 => q5 u (RR.back E1 (RR.back E2 (RR.back E3 (RR.back E4 V5)))))
      | _ => exact (show False from q3).elim⟩⟩
theorem se_ch {op op' : CmpOp} {f g : F2} {r r' : R2} {ta tb tc : ED} (ho : OpR X (compareOp op) r) (ho' : OpR X (compareOp op') r') (lk : Lk2 ca f r) (lk' : Lk2 ca g r') (ha : SD ca X W a ta) (hb : SD ca X W b tb) (hc : SD ca X W c tc)
    (hm : lastMarks [op, op'] [b, c] = false) : SE ca X W (.Compare a [op, op'] [b, c] pos) (eCh f g ta tb tc) := PE.imp (pe_chain ho ho' ha hb hc hm) fun σ H Q q => ch_rd lk lk' q
theorem sb_ch {op op' : CmpOp} {f g : F2} {r r' : R2} {ta tb tc : ED} (ho : OpR X (compareOp op) r) (ho' : OpR X (compareOp op') r') (lk : Lk2 ca f r) (lk' : Lk2 ca g r') (ha : SD ca X W a ta) (hb : SD ca X W b tb) (hc : SD ca X W c tc)
    (hm : lastMarks [op, op'] [b, c] = false) : SB ca X W (.Compare a [op, op'] [b, c] pos) (eTB (eCh f g ta tb tc)) := PT.imp (pt_chain ho ho' ha hb hc hm) fun σ H Q q => ch_rd lk lk' (tb_rd q)
/-- a value's truth -/
def tru (h : Own) : D → Option Bool
  | .non => some false
  | .bl b => some b
  | .int i => some (i != 0)
  | .str s => if s.length ≤ sizeLine then some ((s.length : Int) != 0) else none
  | .tup ds => some (!ds.isEmpty)
  | .lst ds => some (!ds.isEmpty)
  | .dK kds => some (!kds.isEmpty)
  | .ref n => match h[n]? with
    | some (.lst ds) => some (!ds.isEmpty)
    | some (.dK kds) => some (!kds.isEmpty)
    | _ => none
  | _ => none
def eT (x : ED) : EB := fun τ h => (x τ h).bind fun d h1 => match tru h1 d with
  | some k => .ok k h1
  | none => .stuck
theorem emp_eq {α β : Type} : ∀ {xs : List α} {ys : List β}, xs.length = ys.length → xs.isEmpty = ys.isEmpty
  | [], [], _ => rfl
  | [], _ :: _, e => by cases e
  | _ :: _, [], e => by cases e
  | _ :: _, _ :: _, _ => rfl
theorem tru_of {K : PySem.W.Frag} {μ : List Addr} {F H : Hp} {h : Own} {v : V} {d : D} {k : Bool} (R : RelH ca μ F h H) (V1 : VR ca μ F v d) (e : tru h d = some k) : TruV K v H k := by
  cases V1 with
  | non => cases e; rfl
  | bl b => cases e; rfl
  | int b => cases e; rfl
  | str s =>
    unfold tru at e
    dsimp only at e
    by_cases q : s.length ≤ sizeLine
    · rw [if_pos q] at e; cases e; exact ⟨q, rfl⟩
    · rw [if_neg q] at e; cases e
  | tup q r => cases e; exact .inr (.inl ⟨_, SqT.of (R.fz _ _ q), by rw [emp_eq r.length]⟩)
  | lst q r => cases e; exact .inl ⟨_, SqL.of (R.fz _ _ q), by rw [emp_eq r.length]⟩
  | dK q k r =>
    cases e
    have hl := r.length
    rw [List.length_map, List.length_map] at hl
    exact .inr (.inr ⟨_, R.fz _ _ q, by rw [emp_eq hl]⟩)
  | dT q k r => cases e
  | obj q k r => cases e
  | ro a => cases e
  | ref q =>
    rename_i a n
    unfold tru at e
    dsimp only at e
    split at e
    · rename_i ds q2
      cases e
      obtain ⟨vs, q3, r3⟩ := R.ob n _ _ q q2
      exact .inl ⟨_, SqL.of q3, by rw [emp_eq r3.length]⟩
    · rename_i ds q2
      cases e
      obtain ⟨vs, q3, k3, r3⟩ := R.ob n _ _ q q2
      have hl := r3.length
      rw [List.length_map, List.length_map] at hl
      exact .inr (.inr ⟨_, q3, by rw [emp_eq hl]⟩)
    · cases e
theorem sb_t {x : ED} (hx : SD ca X W e x) (he : ∀ whole, isTrue e X.env whole = (do let v ← whole; standAt e.pos; holding [v] (truthy v))) : SB ca X W e (eT x) := PT.imp (pt_truth hx he) fun σ H Q ⟨μ, F, τ, h, A, p⟩ => ⟨μ, F, τ, h, A, p.bind.imp fun d μ1 F1 H1 h1 E1 R1 q v V => by
  cases e1 : tru h1 d with
  | none => simp only [e1] at q; exact q.elim
  | some k =>
    simp only [e1] at q
    exact ⟨k, tru_of R1 V e1, q.ok R1⟩⟩
/-! ### and, or, not -/
def bAnd (a b : EB) : EB := fun τ h => (a τ h).bind fun k h1 => if k = true then b τ h1 else .ok false h1
def bOr (a b : EB) : EB := fun τ h => (a τ h).bind fun k h1 => if k = true then .ok true h1 else b τ h1
def bNot (a : EB) : EB := fun τ h => (a τ h).bind fun k h1 => .ok (!k) h1
variable {rest : List Expr} {ta tb : EB}
theorem sw_and1 (ha : SB ca X W a ta) : SW ca X W (.BoolOp .And [a] pos) ta := pw_and1 ha
theorem sw_or1 (ha : SB ca X W a ta) : SW ca X W (.BoolOp .Or [a] pos) ta := pw_or1 ha
theorem and_rd {σ : L2.St} {H : Hp} {Q : Bool → Hp → Prop} : rdB ca W (bAnd ta tb) σ H Q → tAnd (rdB ca W ta) (rdB ca W tb) σ H Q := fun ⟨μ, F, τ, h, A, p⟩ => ⟨μ, F, τ, h, A, p.bind.imp fun k μ1 F1 H1 h1 E1 R1 q => by
  cases k with
  | true => rw [if_pos rfl] at q ⊢; exact ⟨μ1, F1, τ, h1, A.ext E1 R1, q⟩
  | false => rw [if_neg Bool.false_ne_true] at q ⊢; exact q.ok R1⟩
theorem or_rd {σ : L2.St} {H : Hp} {Q : Bool → Hp → Prop} : rdB ca W (bOr ta tb) σ H Q → tOr (rdB ca W ta) (rdB ca W tb) σ H Q := fun ⟨μ, F, τ, h, A, p⟩ => ⟨μ, F, τ, h, A, p.bind.imp fun k μ1 F1 H1 h1 E1 R1 q => by
  cases k with
  | true => rw [if_pos rfl] at q ⊢; exact q.ok R1
  | false => rw [if_neg Bool.false_ne_true] at q ⊢; exact ⟨μ1, F1, τ, h1, A.ext E1 R1, q⟩⟩
theorem sw_and (ha : SB ca X W a ta) (hb : SW ca X W (.BoolOp .And (b :: rest) pos) tb) : SW ca X W (.BoolOp .And (a :: b :: rest) pos) (bAnd ta tb) := PW.imp (pw_and ha hb) fun σ H Q q => and_rd q
theorem sw_or (ha : SB ca X W a ta) (hb : SW ca X W (.BoolOp .Or (b :: rest) pos) tb) : SW ca X W (.BoolOp .Or (a :: b :: rest) pos) (bOr ta tb) := PW.imp (pw_or ha hb) fun σ H Q q => or_rd q
theorem sb_w (h : SW ca X W e ta) : SB ca X W e ta := h.pt
theorem sb_not (ha : SB ca X W a ta) : SB ca X W (.UnaryOp .Not a pos) (bNot ta) := PT.imp (pt_not ha) fun σ H Q ⟨μ, F, τ, h, A, p⟩ => ⟨μ, F, τ, h, A, p.bind.imp fun k μ1 F1 H1 h1 E1 R1 q => q.ok R1⟩
/-- .. as values, of bools -/
def vAnd (a b : ED) : ED := fun τ h => (a τ h).bind fun x h1 => match x with
  | .bl true => b τ h1
  | .bl false => .ok (.bl false) h1
  | _ => .stuck
def vOr (a b : ED) : ED := fun τ h => (a τ h).bind fun x h1 => match x with
  | .bl false => b τ h1
  | .bl true => .ok (.bl true) h1
  | _ => .stuck
variable {va vb : ED}
theorem sd_one {op} (ha : SD ca X W a va) : SD ca X W (.BoolOp op [a] pos) va := pe_one ha
theorem sd_and (ha : SD ca X W a va) (hb : SD ca X W (.BoolOp .And (b :: rest) pos) vb) : SD ca X W (.BoolOp .And (a :: b :: rest) pos) (vAnd va vb) := PE.imp (pe_and ha hb) fun σ H Q ⟨μ, F, τ, h, A, p⟩ => ⟨μ, F, τ, h, A, p.bind.imp fun d μ1 F1 H1 h1 E1 R1 q v V => by
  cases V with
  | bl k =>
    refine ⟨k, rfl, ?_⟩
    cases k with
    | true => rw [if_pos rfl]; exact ⟨μ1, F1, τ, h1, A.ext E1 R1, q⟩
    | false => rw [if_neg Bool.false_ne_true]; exact q.ok R1 _ (.bl false)
  | _ => exact (show False from q).elim⟩
theorem sd_or (ha : SD ca X W a va) (hb : SD ca X W (.BoolOp .Or (b :: rest) pos) vb) : SD ca X W (.BoolOp .Or (a :: b :: rest) pos) (vOr va vb) := PE.imp (pe_or ha hb) fun σ H Q ⟨μ, F, τ, h, A, p⟩ => ⟨μ, F, τ, h, A, p.bind.imp fun d μ1 F1 H1 h1 E1 R1 q v V => by
  cases V with
  | bl k =>
    refine ⟨k, rfl, ?_⟩
    cases k with
    | true => rw [if_pos rfl]; exact q.ok R1 _ (.bl true)
    | false => rw [if_neg Bool.false_ne_true]; exact ⟨μ1, F1, τ, h1, A.ext E1 R1, q⟩
  | _ => exact (show False from q).elim⟩
/-- a if t else b -/
def eIf (t : EB) (a b : EX) : EX := fun τ h => (t τ h).bind fun k h1 => if k = true then a τ h1 else b τ h1
theorem se_if {xa xb : EX} (hc : SB ca X W c ta) (ha : SE ca X W a xa) (hb : SE ca X W b xb) : SE ca X W (.IfExp c a b pos) (eIf ta xa xb) := PE.imp (pe_ifExp hc ha hb) fun σ H Q ⟨μ, F, τ, h, A, p⟩ => ⟨μ, F, τ, h, A, p.bind.imp fun k μ1 F1 H1 h1 E1 R1 q => by
  have q' := q.imp (K' := fun r μ2 F2 H2 _ => ∀ v, RR ca μ2 F2 H1 H2 v r → Q v H2) fun r μ2 F2 H2 h2 E2 R2 q2 w V2 => q2 w (RR.back E1 V2)
  cases k with
  | true => show rdE ca W xa σ H1 Q; rw [if_pos rfl] at q'; exact ⟨μ1, F1, τ, h1, A.ext E1 R1, q'⟩
  | false => show rdE ca W xb σ H1 Q; rw [if_neg Bool.false_ne_true] at q'; exact ⟨μ1, F1, τ, h1, A.ext E1 R1, q'⟩⟩
/-! ### arguments, displays -/
def aNil : EA := fun _ h => .ok [] h
def aCons (x : ED) (xs : EA) : EA := fun τ h => (x τ h).bind fun d h1 => (xs τ h1).bind fun ds h2 => .ok (d :: ds) h2
variable {es : List Expr} {xs : EA}
theorem sa_nil : SA ca X W [] aNil := PA.imp pa_nil fun σ H Q ⟨μ, F, τ, h, A, p⟩ => p.ok A.rel [] .nil
theorem sa_cons {x : ED} (hx : SD ca X W e x) (hxs : SA ca X W es xs) (hs : starEach (e :: es) X.env = (false, eval e X.env) :: starEach es X.env) : SA ca X W (e :: es) (aCons x xs) := PA.imp (pa_cons hx hxs hs) fun σ H Q ⟨μ, F, τ, h, A, p⟩ =>
  ⟨μ, F, τ, h, A, p.bind.imp fun d μ1 F1 H1 h1 E1 R1 q v V => ⟨μ1, F1, τ, h1, A.ext E1 R1, q.bind.imp fun ds μ2 F2 H2 h2 E2 R2 q2 vs Vs => q2.ok R2 _ (.cons (E2.vr V) Vs)⟩⟩
def eTup (xs : EA) : ED := fun τ h => (xs τ h).bind fun ds h1 => if ds.length ≤ sizeLine then .ok (.tup ds) h1 else .stuck
def eLst (xs : EA) : EX := fun τ h => (xs τ h).bind fun ds h1 => if ds.length ≤ sizeLine then .ok (.n (.lst ds)) h1 else .stuck
theorem sd_tup {x1} (h : SA ca X W es xs) : SD ca X W (.Tuple es x1 pos) (eTup xs) := PE.imp (pe_tup h) fun σ H Q ⟨μ, F, τ, h, A, p⟩ => ⟨μ, F, τ, h, A, p.bind.imp fun ds μ1 F1 H1 h1 E1 R1 q vs Vs => by
  by_cases hC : ds.length ≤ sizeLine
  · rw [if_pos hC] at q
    refine ⟨by rw [Vs.length]; exact hC, fun l hl => ?_⟩
    obtain ⟨E2, R2⟩ := fzNew (b := τ.b) R1 hl (.tup vs)
    exact q _ _ _ E2 R2 _ (.tup upd_same (E2.vrs Vs))
  · rw [if_neg hC] at q
    exact q.elim⟩
theorem se_lst (h : SA ca X W es xs) : SE ca X W (.List es pos) (eLst xs) := PE.imp (pe_lst h) fun σ H Q ⟨μ, F, τ, h, A, p⟩ => ⟨μ, F, τ, h, A, p.bind.imp fun ds μ1 F1 H1 h1 E1 R1 q vs Vs => by
  by_cases hC : ds.length ≤ sizeLine
  · rw [if_pos hC] at q
    refine ⟨by rw [Vs.length]; exact hC, fun l hl => ?_⟩
    obtain ⟨E2, R2, w⟩ := neNew (b := τ.b) R1 hl (.lst vs) (o := .lst ds) fun H' q => ⟨vs, q, Vs⟩
    exact q _ _ _ E2 R2 _ (RR.back E1 w)
  · rw [if_neg hC] at q
    exact q.elim⟩
/-! ### attributes -/
def fFld (cs : List Nat) (i : Nat) : F1 := fun x h => match x with
  | .obj c fs => if c ∈ cs then (match fs[i]? with | some d => .ok (.v d) h | none => .stuck) else .stuck
  | .ref n => match h[n]? with
    | some (.ins c fs) => if c ∈ cs then (match fs[i]? with | some d => .ok (.v d) h | none => .stuck) else .stuck
    | _ => .stuck
  | _ => .stuck
theorem fld_at {f : Str} : ∀ {fs : List (Str × V)} {ns : List Str} {vs : List V} {i : Nat} {v : V}, fs.map (·.1) = ns → ns.Nodup → ns[i]? = some f → fs.map (·.2) = vs → vs[i]? = some v → fs.lookup f = some v
  | [], _, _, i, v, e1, _, e3, e4, e5 => by subst e4; simp at e5
  | (g, u) :: fs, ns, vs, 0, v, e1, nd, e3, e4, e5 => by
    subst e1 e4
    simp only [List.map_cons, List.getElem?_cons_zero, Option.some.injEq] at e3 e5
    subst e3 e5
    simp
  | (g, u) :: fs, ns, vs, i + 1, v, e1, nd, e3, e4, e5 => by
    subst e1 e4
    simp only [List.map_cons, List.getElem?_cons_succ] at e3 e5
    rw [List.map_cons, List.nodup_cons] at nd
    have hne : ¬ (f == g) = true := by
      intro q
      have q' : f = g := by simpa using q
      subst q'
      exact nd.1 (List.mem_of_getElem? e3)
    rw [List.lookup_cons]
    simp only [hne]
    exact fld_at rfl nd.2 e3 rfl e5
theorem se_fld {cs : List Nat} {i : Nat} {f : Str} {x : ED} (hx : SD ca X W e x) (hb : attributeBase e f X.env (eval e X.env) = eval e X.env)
    (hc : ∀ c ∈ cs, Cls X.K (ca.ad c) ∧ NoAttr X.K (ca.ad c) f ∧ (ca.nm c).Nodup ∧ (ca.nm c)[i]? = some f) : SE ca X W (.Attribute e f pos) (e1 (fFld cs i) x) := PE.imp (pe_fld hx hb) fun σ H Q ⟨μ, F, τ, h, A, p⟩ => ⟨μ, F, τ, h, A, p.bind.imp fun d μ1 F1 H1 h1 E1 R1 q v Vr => by
  have go : ∀ {a dx : Addr} {c : Nat} {fs : List (Str × V)} {fds : List D}, v = .ref a → H1 a = some (.ins (ca.ad c) dx fs) → fs.map (·.1) = (ca.nm c).take fds.length → VRs ca μ1 F1 (fs.map (·.2)) fds →
      (PostG ca τ.b μ1 F1 H1 h1 (if c ∈ cs then (match fds[i]? with | some d => .ok (.v d) h1 | none => .stuck) else .stuck) (wx ca W σ) fun r μ2 F2 H2 _ => ∀ v, RR ca μ2 F2 H H2 v r → Q v H2) →
      ∃ a C dx fs v', v = .ref a ∧ H1 a = some (.ins C dx fs) ∧ Cls X.K C ∧ NoAttr X.K C f ∧ fs.lookup f = some v' ∧ Q v' H1 := by
    intro a dx c fs fds e1 e2 e3 r q
    by_cases hm : c ∈ cs
    · rw [if_pos hm] at q
      obtain ⟨k1, k2, k3, k4⟩ := hc c hm
      cases ei : fds[i]? with
      | none => rw [ei] at q; exact q.elim
      | some z =>
        rw [ei] at q
        obtain ⟨w, ew, rw'⟩ := r.get ei
        have hi : i < fds.length := (List.getElem?_eq_some_iff.mp ei).1
        refine ⟨a, _, dx, fs, w, e1, e2, k1, k2, fld_at e3 (List.Nodup.sublist (List.take_sublist _ _) k3) ?_ rfl ew, q.ok R1 _ rw'⟩
        rw [List.getElem?_take, if_pos hi]; exact k4
    · rw [if_neg hm] at q
      exact q.elim
  cases Vr with
  | obj e k r => exact go rfl (R1.fz _ _ e) k r q
  | ref e =>
    rename_i a n
    unfold fFld at q
    dsimp only at q
    split at q
    · rename_i c fds q2
      obtain ⟨dx, fs, w1, w2, w3⟩ := R1.ob n _ _ e q2
      exact go rfl w1 w2 w3 q
    · exact q.elim
  | _ => exact (show False from q).elim⟩
end
end Z
set_option Elab.async false
set_option linter.all false
set_option maxRecDepth 100000
set_option maxHeartbeats 1000000
/-! Z7: statements; defs and their calls. -/
namespace Z
open PySem PySem.Spec L2
section
variable {ca : Cn} {X : Cx} {W : WF} {pos : Pos} {e a b c : Expr}
/-! ### from a new object to an own one; an own one frozen -/
def eAl (x : EX) : ED := fun τ h => (x τ h).bind fun r h1 => match r with
  | .v d => .ok d h1
  | .n o => .ok (.ref h1.length) (h1 ++ [o])
theorem sd_al {x : EX} (hx : SE ca X W e x) : SD ca X W e (eAl x) := PE.imp hx fun σ H Q ⟨μ, F, τ, h, A, p⟩ => ⟨μ, F, τ, h, A, by
  unfold eAl at p
  cases hr : x τ h with
  | stuck => rw [hr] at p; exact p.elim
  | exc c h1 => rw [hr] at p; exact p
  | ok r h1 =>
    rw [hr] at p
    intro μ1 F1 H1 E1 R1 v V
    cases r with
    | v d => exact p μ1 F1 H1 E1 R1 v V
    | n o =>
      obtain ⟨a, rfl, h0, hd, hm, hF, ho⟩ := V
      have p' : PostG ca τ.b μ F H h (.ok (.ref h1.length) (h1 ++ [o])) (wx ca W σ) fun d μ1 F1 H1 _ => ∀ v, VR ca μ1 F1 v d → Q v H1 := p
      refine p' _ _ _ (E1.alloc h0 (Nat.le_trans A.bl (E1.len A.rel R1))) (R1.alloc hd hm hF ho) _ (.ref ?_)
      rw [← R1.len]
      simp⟩
/-- an own object of this frame, frozen -/
def fzr (b : Nat) (d : D) (h : Own) : Res D := match d with
  | .ref m => if b ≤ m then match h[m]? with
    | some o => match frzO o with
      | some d => .ok d (h.set m .dead)
      | none => .stuck
    | none => .stuck else .stuck
  | d => .ok d h
def eFz (x : ED) : ED := fun τ h => (x τ h).bind fun d h1 => fzr τ.b d h1
theorem frzO_dead {o : O} {d : D} (h : frzO o = some d) : o ≠ .dead := by rintro rfl; cases h
theorem frzO_stb {o : O} {d : D} (h : frzO o = some d) : stb o = false := by cases o <;> first | rfl | cases h
theorem fz_of {K : PySem.W.Frag} {μ : List Addr} {F H : Hp} {a : Addr} {o : O} {d : D} (ho : OR ca μ F H a o) (e : frzO o = some d) (hF : F a = none) : ∃ u, H a = some u ∧ VR ca μ (upd F a u) (.ref a) d := frz_ok ho e hF
theorem sd_fz {x : ED} (hx : SD ca X W e x) : SD ca X W e (eFz x) := PE.imp hx fun σ H Q ⟨μ, F, τ, h, A, p⟩ => ⟨μ, F, τ, h, A, p.bind.imp fun d μ1 F1 H1 h1 E1 R1 q v V => by
  cases V with
  | ref em =>
    rename_i a m
    unfold fzr at q
    dsimp only at q
    by_cases hb : τ.b ≤ m
    · rw [if_pos hb] at q
      cases e0 : h1[m]? with
      | none => rw [e0] at q; exact q.elim
      | some o =>
        rw [e0] at q
        dsimp only at q
        cases ef : frzO o with
        | none => rw [ef] at q; exact q.elim
        | some d =>
          rw [ef] at q
          have nd := frzO_dead ef
          obtain ⟨u, hu, hv⟩ := frz_ok (R1.ob m a o em e0) ef (R1.sep m a o em e0 nd)
          exact q μ1 _ H1 (Ext.refl.fzOwn R1 em e0 nd (frzO_stb ef)) (R1.fzOwn em e0 nd hu) _ hv
    · rw [if_neg hb] at q; exact q.elim
  | non => exact q.ok R1 _ .non
  | bl b => exact q.ok R1 _ (.bl b)
  | int b => exact q.ok R1 _ (.int b)
  | str b => exact q.ok R1 _ (.str b)
  | tup a b => exact q.ok R1 _ (.tup a b)
  | lst a b => exact q.ok R1 _ (.lst a b)
  | dK a b c => exact q.ok R1 _ (.dK a b c)
  | dT a b c => exact q.ok R1 _ (.dT a b c)
  | obj a b c => exact q.ok R1 _ (.obj a b c)
  | ro a => exact q.ok R1 _ (.ro a)⟩

/-! ### statements -/
inductive SRes where
  | next (s : Sl) (h : Own) | ret (r : R) (h : Own) | brk (s : Sl) (h : Own) | cnt (s : Sl) (h : Own) | exc (c : Nat) (s : Sl) (h : Own) | stuck
abbrev ST := Fm → Own → SRes
def PostS (ca : Cn) (W : WF) (b : Nat) (μ : List Addr) (F H : Hp) (h : Own) (r : SRes) (D : Ends) : Prop :=
  match r with
  | .next s h1 => ∀ μ1 F1 H1 σ1, Ext b μ F H h μ1 F1 H1 h1 → RelH ca μ1 F1 h1 H1 → SR ca μ1 F1 s σ1 → D.nx σ1 H1
  | .brk s h1 => ∀ μ1 F1 H1 σ1, Ext b μ F H h μ1 F1 H1 h1 → RelH ca μ1 F1 h1 H1 → SR ca μ1 F1 s σ1 → D.bk σ1 H1
  | .cnt s h1 => ∀ μ1 F1 H1 σ1, Ext b μ F H h μ1 F1 H1 h1 → RelH ca μ1 F1 h1 H1 → SR ca μ1 F1 s σ1 → D.ct σ1 H1
  | .ret r h1 => ∀ μ1 F1 H1 v, Ext b μ F H h μ1 F1 H1 h1 → RelH ca μ1 F1 h1 H1 → RR ca μ1 F1 H H1 v r → D.rt v H1
  | .exc c s h1 => ∀ μ1 F1 H1 σ1, Ext b μ F H h μ1 F1 H1 h1 → RelH ca μ1 F1 h1 H1 → SR ca μ1 F1 s σ1 → W (.ref (ca.ad c)) none σ1 H1
  | .stuck => False
theorem PostS.step {b : Nat} {μ μ1 : List Addr} {F F1 H H1 : Hp} {h h1 : Own} {r : SRes} {D : Ends} (E : Ext b μ F H h μ1 F1 H1 h1) (p : PostS ca W b μ F H h r D) : PostS ca W b μ1 F1 H1 h1 r D := by
  cases r with
  | stuck => exact p
  | next s h2 => exact fun μ2 F2 H2 σ2 E2 => p μ2 F2 H2 σ2 (E.trans E2)
  | brk s h2 => exact fun μ2 F2 H2 σ2 E2 => p μ2 F2 H2 σ2 (E.trans E2)
  | cnt s h2 => exact fun μ2 F2 H2 σ2 E2 => p μ2 F2 H2 σ2 (E.trans E2)
  | exc c s h2 => exact fun μ2 F2 H2 σ2 E2 => p μ2 F2 H2 σ2 (E.trans E2)
  | ret r h2 => exact fun μ2 F2 H2 v E2 R2 V => p μ2 F2 H2 v (E.trans E2) R2 (RR.back E V)
def rdS (ca : Cn) (W : WF) (x : ST) : TS := fun D σ H => ∃ μ F τ h, At ca μ F τ h σ H ∧ PostS ca W τ.b μ F H h (x τ h) D
def SS (ca : Cn) (X : Cx) (W : WF) (st : Stmt) (x : ST) : Prop := PS X st (rdS ca W x)
def SSs (ca : Cn) (X : Cx) (W : WF) (st : List Stmt) (x : ST) : Prop := PSs X st (rdS ca W x)
/-- an expression within a statement -/
def sE {α : Type} (x : Fm → Own → Res α) (f : α → Fm → Own → SRes) : ST := fun τ h => match x τ h with
  | .ok a h1 => f a τ h1
  | .exc c h1 => .exc c τ.s h1
  | .stuck => .stuck
theorem sE_post {α : Type} {x : Fm → Own → Res α} {f : α → Fm → Own → SRes} {μ : List Addr} {F H : Hp} {h : Own} {τ : Fm} {σ : L2.St} {D : Ends} (A : At ca μ F τ h σ H) (p : PostS ca W τ.b μ F H h (sE x f τ h) D) :
    PostG ca τ.b μ F H h (x τ h) (wx ca W σ) fun a μ1 F1 H1 h1 => PostS ca W τ.b μ1 F1 H1 h1 (f a τ h1) D := by
  unfold sE at p
  cases hx : x τ h with
  | stuck => rw [hx] at p; exact p
  | exc c h1 => rw [hx] at p; exact fun μ1 F1 H1 E1 R1 => p μ1 F1 H1 σ E1 R1 (E1.sr A.sl)
  | ok a h1 => rw [hx] at p; exact fun μ1 F1 H1 E1 R1 => p.step E1
def sPass : ST := fun τ h => .next τ.s h
def sSeq (a b : ST) : ST := fun τ h => match a τ h with
  | .next s h1 => b ⟨τ.b, s⟩ h1
  | r => r
def sNever : ST := fun _ _ => .stuck
def sBrk : ST := fun τ h => .brk τ.s h
def sCnt : ST := fun τ h => .cnt τ.s h
variable {st : Stmt} {rest : List Stmt} {x y : ST}
theorem ss_pass : SS ca X W (.Pass pos) sPass := PS.imp ps_pass fun D σ H ⟨μ, F, τ, h, A, p⟩ => p μ F H σ Ext.refl A.rel A.sl
theorem ss_brk : SS ca X W (.Break pos) sBrk := PS.imp ps_break fun D σ H ⟨μ, F, τ, h, A, p⟩ => p μ F H σ Ext.refl A.rel A.sl
theorem ss_cnt : SS ca X W (.Continue pos) sCnt := PS.imp ps_continue fun D σ H ⟨μ, F, τ, h, A, p⟩ => p μ F H σ Ext.refl A.rel A.sl
theorem sss_nil : SSs ca X W [] sPass := PSs.imp pss_nil fun D σ H ⟨μ, F, τ, h, A, p⟩ => p μ F H σ Ext.refl A.rel A.sl
theorem ss_never : SS ca X W st sNever := PS.imp ps_never fun D σ H ⟨μ, F, τ, h, A, p⟩ => p
theorem sss_never {l : List Stmt} : SSs ca X W l sNever := PSs.imp pss_never fun D σ H ⟨μ, F, τ, h, A, p⟩ => p
theorem sss_one (h : SS ca X W st x) : SSs ca X W [st] x := pss_one h
theorem sss_cons (h1 : SS ca X W st x) (h2 : SSs ca X W rest y) : SSs ca X W (st :: rest) (sSeq x y) := PSs.imp (pss_cons h1 h2) fun D σ H ⟨μ, F, τ, h, A, p⟩ => ⟨μ, F, τ, h, A, by
  unfold sSeq at p
  cases hx : x τ h with
  | next s h1 =>
    rw [hx] at p
    exact fun μ1 F1 H1 σ1 E1 R1 S1 => ⟨μ1, F1, ⟨τ.b, s⟩, h1, ⟨R1, S1, Nat.le_trans A.bl (E1.len A.rel R1)⟩, p.step E1⟩
  | _ => rw [hx] at p; exact p⟩
def sX (x : ED) : ST := sE x fun _ τ h => .next τ.s h
theorem ss_expr {x : ED} (hx : SD ca X W e x) (hs : swapsWith e none pos.line X.env = pure false) : SS ca X W (.Expr e pos) (sX x) := PS.imp (ps_expr hx hs) fun D σ H ⟨μ, F, τ, h, A, p⟩ => ⟨μ, F, τ, h, A, (sE_post A p).imp fun d μ1 F1 H1 h1 E1 R1 q v V => q μ1 F1 H1 σ Ext.refl R1 (E1.sr A.sl)⟩
def sRet (x : EX) : ST := sE x fun r _ h => .ret r h
theorem PostS.retR {b : Nat} {μ μ1 : List Addr} {F F1 H H1 : Hp} {h h1 : Own} {x : Res R} {D : Ends} : True := trivial
theorem ss_ret {x : EX} (hx : SE ca X W e x) : SS ca X W (.Return (some e) pos) (sRet x) := PS.imp (ps_ret hx) fun D σ H ⟨μ, F, τ, h, A, p⟩ => ⟨μ, F, τ, h, A, by
  unfold sRet sE at p
  cases hr : x τ h with
  | stuck => rw [hr] at p; exact p
  | exc c h1 => rw [hr] at p; exact fun μ1 F1 H1 E1 R1 => p μ1 F1 H1 σ E1 R1 (E1.sr A.sl)
  | ok r h1 => rw [hr] at p; exact fun μ1 F1 H1 E1 R1 v V => p μ1 F1 H1 v E1 R1 V⟩
def sRetN : ST := fun _ h => .ret (.v .non) h
theorem ss_retN : SS ca X W (.Return none pos) sRetN := PS.imp ps_retN fun D σ H ⟨μ, F, τ, h, A, p⟩ => p μ F H .non Ext.refl A.rel (show VR ca _ _ _ _ from .non)
def sIf (t : EB) (a b : ST) : ST := sE t fun k τ h => if k = true then a τ h else b τ h
theorem ss_if {tc : EB} {l1 l2 : List Stmt} (hc : SB ca X W c tc) (h1 : SSs ca X W l1 x) (h2 : SSs ca X W l2 y) : SS ca X W (.If c l1 l2 pos) (sIf tc x y) := PS.imp (ps_if hc h1 h2) fun D σ H ⟨μ, F, τ, h, A, p⟩ => ⟨μ, F, τ, h, A, (sE_post A p).imp fun k μ1 F1 H1 h1 E1 R1 q => by
  cases k with
  | true => show rdS ca W x D σ H1; rw [if_pos rfl] at q; exact ⟨μ1, F1, τ, h1, A.ext E1 R1, q⟩
  | false => show rdS ca W y D σ H1; rw [if_neg Bool.false_ne_true] at q; exact ⟨μ1, F1, τ, h1, A.ext E1 R1, q⟩⟩
/-! ### targets -/
abbrev ET := D → Fm → Own → SRes
def rdG (ca : Cn) (W : WF) (g : ET) : TG := fun v σ H Q => ∃ μ F τ h d, At ca μ F τ h σ H ∧ VR ca μ F v d ∧ ∃ s1 h1, g d τ h = .next s1 h1 ∧ ∀ μ1 F1 H1 σ1, Ext τ.b μ F H h μ1 F1 H1 h1 → RelH ca μ1 F1 h1 H1 → SR ca μ1 F1 s1 σ1 → Q σ1 H1
def SG (ca : Cn) (X : Cx) (W : WF) (tg : Expr) (g : ET) : Prop := PG X tg (rdG ca W g)
theorem PG.imp {X : Cx} {e : Expr} {t t' : TG} (h : PG X e t) (i : ∀ v σ H Q, t' v σ H Q → t v σ H Q) : PG X e t' := ⟨fun pins s σ H v u Q I r q => h.run pins s σ H v u Q I r (i v σ H Q q)⟩
theorem PGs.imp {X : Cx} {e : List Expr} {t t' : TGs} (h : PGs X e t) (i : ∀ v σ H Q, t' v σ H Q → t v σ H Q) : PGs X e t' := ⟨fun pins s σ H v u Q I r q => h.run pins s σ H v u Q I r (i v σ H Q q)⟩
def tN (i : Nat) : ET := fun d τ h => .next (τ.s.set i (some d)) h
theorem sg_name {tg : Expr} {i : Nat} (h : PG X tg (gName i)) : SG ca X W tg (tN i) := PG.imp h fun v σ H Q ⟨μ, F, τ, h, d, A, V, s1, h1, e, p⟩ => by
  cases e
  exact p μ F H _ Ext.refl A.rel (A.sl.set i V)
abbrev ETs := List D → Fm → Own → SRes
def tNil : ETs := fun ds τ h => match ds with
  | [] => .next τ.s h
  | _ => .stuck
def tCons (g : ET) (gs : ETs) : ETs := fun ds τ h => match ds with
  | d :: ds => match g d τ h with
    | .next s h1 => gs ds ⟨τ.b, s⟩ h1
    | _ => .stuck
  | [] => .stuck
def rdGs (ca : Cn) (W : WF) (g : ETs) : TGs := fun vs σ H Q => ∃ μ F τ h ds, At ca μ F τ h σ H ∧ VRs ca μ F vs ds ∧ ∃ s1 h1, g ds τ h = .next s1 h1 ∧ ∀ μ1 F1 H1 σ1, Ext τ.b μ F H h μ1 F1 H1 h1 → RelH ca μ1 F1 h1 H1 → SR ca μ1 F1 s1 σ1 → Q σ1 H1
def SGs (ca : Cn) (X : Cx) (W : WF) (tg : List Expr) (g : ETs) : Prop := PGs X tg (rdGs ca W g)
theorem sgs_nil : SGs ca X W [] tNil := PGs.imp pgs_nil fun vs σ H Q ⟨μ, F, τ, h, ds, A, V, s1, h1, e, p⟩ => by
  cases V with
  | nil => cases e; exact ⟨rfl, p μ F H σ Ext.refl A.rel A.sl⟩
  | cons _ _ => cases e
theorem sgs_cons {es : List Expr} {g : ET} {gs : ETs} (h1 : SG ca X W e g) (h2 : SGs ca X W es gs) (hs : (assignEach (e :: es) X.env).map (·.2) = assign e X.env :: (assignEach es X.env).map (·.2)) : SGs ca X W (e :: es) (tCons g gs) := PGs.imp (pgs_cons h1 h2 hs) fun vs σ H Q ⟨μ, F, τ, h, ds, A, V, s1, h1, e, p⟩ => by
  cases V with
  | nil => cases e
  | @cons v d vs ds r t =>
    unfold tCons at e
    dsimp only at e
    cases hg : g d τ h with
    | next s h2 =>
      rw [hg] at e
      exact ⟨_, _, rfl, μ, F, τ, h, d, A, r, s, h2, hg, fun μ1 F1 H1 σ1 E1 R1 S1 => ⟨μ1, F1, ⟨τ.b, s⟩, h2, ds, ⟨R1, S1, Nat.le_trans A.bl (E1.len A.rel R1)⟩, E1.vrs t, s1, h1, e, fun μ2 F2 H2 σ2 E2 R2 S2 => p μ2 F2 H2 σ2 (E1.trans E2) R2 S2⟩⟩
    | _ => rw [hg] at e; cases e
def tTup (gs : ETs) : ET := fun d τ h => match d with
  | .tup ds => gs ds τ h
  | _ => .stuck
theorem gs_len {gs : ETs} {n : Nat} : True := trivial
/-- n targets want n items -/
def LenOk (gs : ETs) (n : Nat) : Prop := ∀ ds τ h s1 h1, gs ds τ h = .next s1 h1 → ds.length = n
theorem len_nil : LenOk tNil 0 := fun ds τ h s1 h1 e => by
  cases ds with
  | nil => rfl
  | cons _ _ => cases e
theorem len_cons {g : ET} {gs : ETs} {n : Nat} (h : LenOk gs n) : LenOk (tCons g gs) (n + 1) := fun ds τ h' s1 h1 e => by
  cases ds with
  | nil => cases e
  | cons d ds =>
    unfold tCons at e
    dsimp only at e
    cases hg : g d τ h' with
    | next s h2 => rw [hg] at e; rw [List.length_cons, h ds _ _ _ _ e]
    | _ => rw [hg] at e; cases e
theorem sg_tup {es : List Expr} {k n : Nat} {gs : ETs} (hc : X.calm = true) (h : SGs ca X W es gs) (hl : LenOk gs n) (hn : (assignEach es X.env).length = n) (hst : (assignEach es X.env).findIdx? (·.1) = none) : SG ca X W (.Tuple es k pos) (tTup gs) :=
  PG.imp (pg_tup hc h hn hst) fun v σ H Q ⟨μ, F, τ, h, d, A, V, s1, h1, e, p⟩ => by
    cases V with
    | tup q r => exact ⟨_, _, rfl, SqT.of (A.rel.fz _ _ q), by rw [r.length]; exact hl _ _ _ _ _ e, μ, F, τ, h, _, A, r, s1, h1, e, p⟩
    | _ => cases e
/-! ### assignments -/
def sA (x : ED) (g : ET) : ST := sE x fun d τ h => match g d τ h with
  | .next s h1 => .next s h1
  | _ => .stuck
theorem as_rd {x : ED} {g : ET} : ∀ D σ H, rdS ca W (sA x g) D σ H → tAsg (rdD ca W x) (rdG ca W g) D σ H := fun D σ H ⟨μ, F, τ, h, A, p⟩ => ⟨μ, F, τ, h, A, (sE_post A p).imp fun d μ1 F1 H1 h1 E1 R1 q v V => by
  cases hg : g d τ h1 with
  | next s h2 => rw [hg] at q; exact ⟨μ1, F1, τ, h1, d, A.ext E1 R1, V, s, h2, hg, fun μ2 F2 H2 σ2 E2 R2 S2 => q μ2 F2 H2 σ2 E2 R2 S2⟩
  | _ => rw [hg] at q; exact q.elim⟩
theorem ss_asg {tg : Expr} {x : ED} {g : ET} (hx : SD ca X W e x) (hg : SG ca X W tg g) (hs : swapsWithSole [tg] e pos.line X.env = pure false) (hw : swappedStores [tg] e X.env = pure none)
    (h1 : (assignEach [tg] X.env).map (·.2) = [assign tg X.env]) : SS ca X W (.Assign [tg] e pos) (sA x g) := PS.imp (ps_asg hx hg hs hw h1) as_rd
def sSet (i : Nat) (x : ED) : ST := sE x fun d τ h => .next (τ.s.set i (some d)) h
theorem set_rd {i : Nat} {x : ED} : ∀ D σ H, rdS ca W (sSet i x) D σ H → tAsg (rdD ca W x) (gName i) D σ H := fun D σ H ⟨μ, F, τ, h, A, p⟩ => ⟨μ, F, τ, h, A, (sE_post A p).imp fun d μ1 F1 H1 h1 E1 R1 q v V => q μ1 F1 H1 _ Ext.refl R1 ((E1.sr A.sl).set i V)⟩
/-- name = e -/
theorem ss_set {i : Nat} {x : ED} {n : Str} {pos' : Pos} (hN : X.N.Nodup) (hi : X.N[i]? = some n) (hx' : Loc X.env.scope n) (hx : SD ca X W e x) (hs : swapsWith e (some (.Name n pos')) pos.line X.env = pure false) (hf : X.fn n = true ∨ X.env.scope.names.lookup n = some .local) :
    SS ca X W (.Assign [.Name n pos'] e pos) (sSet i x) := PS.imp (ps_set hN hi hx' hx hs hf) set_rd
end
end Z
set_option Elab.async false
set_option linter.all false
set_option maxRecDepth 100000
set_option maxHeartbeats 1000000
/-! Z8: defs and calls; stores. -/
namespace Z
open PySem PySem.Spec L2
section
variable {ca : Cn} {X : Cx} {W : WF} {pos : Pos} {e a b c : Expr}
/-! ### a def -/
/-- what a def's body does: the base, the arguments, the heap -/
abbrev BD := Nat → List D → Own → SRes
def body (N : Nat) (x : ST) : BD := fun b ds h => x ⟨b, ds.map some ++ List.replicate (N - ds.length) none⟩ h
/-- a def's promise -/
def PostF (ca : Cn) (b : Nat) (μ : List Addr) (F H : Hp) (h : Own) (r : SRes) (Q : VK) (E : XK) : Prop :=
  match r with
  | .next _ h1 => ∀ μ1 F1 H1, Ext b μ F H h μ1 F1 H1 h1 → RelH ca μ1 F1 h1 H1 → Q .non H1
  | .ret r h1 => ∀ μ1 F1 H1 v, Ext b μ F H h μ1 F1 H1 h1 → RelH ca μ1 F1 h1 H1 → RR ca μ1 F1 H H1 v r → Q v H1
  | .exc c _ h1 => ∀ μ1 F1 H1, Ext b μ F H h μ1 F1 H1 h1 → RelH ca μ1 F1 h1 H1 → E (.ref (ca.ad c)) none H1
  | _ => False
def spB (ca : Cn) (n : Nat) (G : BD) : Sp := fun vs H Q E => ∃ μ F h ds b, RelH ca μ F h H ∧ VRs ca μ F vs ds ∧ ds.length = n ∧ b ≤ h.length ∧ PostF ca b μ F H h (G b ds h) Q E
section
variable {P : Program} {w : World} {K : PySem.W.Frag} {mg : Str → Option Value} {base : Heap}
theorem def_ok {x qual : Str} {st : Stmt} {f : Addr} {fd : FuncData} {N ps : List Str} {k : Nat} {bd : ST} (F : Fun K x qual st f fd) (S : FnScope N ps (defScope st))
    (hb : ∀ (cdv : Value) (A : Around) (outer : List Env) (s : Shared) (H : Hp) (E : XK), Room k (A.deeper (PyProof.Rows.envOfC qual (defScope st) s.heap.objs.size f cdv)) →
      SSs ca (cxOf (L2.CX P w) P w K mg base N qual (defScope st) f cdv A outer s H E) (fun cls d _ H' => E cls d H') (defBody st) bd) :
    FnOk P w K mg base (L2.CX P w) (k + 1) f fd ps (spB ca ps.length (body N.length bd)) := by
  refine F.okX S (fun vs H Q E ⟨μ, F, h, ds, b, R, V, hl, _, _⟩ => by rw [V.length, hl]) (fun cdv A outer s H vs Q E hr ⟨μ, F, h, ds, b, R, V, hl, hbl, p⟩ => ?_)
  refine ⟨_, hb cdv A outer s H E hr, μ, F, ⟨b, ds.map some ++ List.replicate (N.length - ds.length) none⟩, h, ⟨R, ⟨?_, ?_⟩, hbl⟩, ?_⟩
  · show _ = (L2.start N vs).length
    unfold L2.start
    simp [V.length]
  · intro i d hi
    by_cases hlt : i < ds.length
    · rw [List.getElem?_append_left (by simpa using hlt), List.getElem?_map] at hi
      cases e1 : ds[i]? with
      | none => rw [e1] at hi; cases hi
      | some d' =>
        rw [e1] at hi
        cases hi
        obtain ⟨v, ev, rv⟩ := V.get e1
        refine ⟨v, ?_, rv⟩
        unfold L2.start
        rw [List.getElem?_append_left (by rw [List.length_map, V.length]; exact hlt), List.getElem?_map, ev]
        rfl
    · rw [List.getElem?_append_right (by simpa using hlt), List.getElem?_replicate] at hi
      split at hi <;> cases hi
  · show PostS ca _ b μ F H h (bd ⟨b, ds.map some ++ List.replicate (N.length - ds.length) none⟩ h) _
    have p' : PostF ca b μ F H h (bd ⟨b, ds.map some ++ List.replicate (N.length - ds.length) none⟩ h) Q E := p
    generalize bd ⟨b, ds.map some ++ List.replicate (N.length - ds.length) none⟩ h = r at p'
    cases r with
    | next s h1 => exact fun μ1 F1 H1 σ1 E1 R1 S1 => p' μ1 F1 H1 E1 R1
    | ret r h1 => exact p'
    | exc c s h1 => exact fun μ1 F1 H1 σ1 E1 R1 S1 => p' μ1 F1 H1 E1 R1
    | _ => exact p'.elim
end
/-! ### the end of a call -/
def notDead : O → Bool
  | .dead => false
  | .lkK _ => false
  | .lkT _ => false
  | .tb _ => false
  | _ => true
def exitR (b : Nat) (r : R) (h1 : Own) : Res R := match r with
  | .v (.ref m) => if m < b then .ok (.v (.ref m)) (h1.take b) else match h1[m]? with
    | some o => if nrfO o = true ∧ notDead o = true then .ok (.n o) (h1.take b) else .stuck
    | none => .stuck
  | .v d => if nrf d = true then .ok (.v d) (h1.take b) else .stuck
  | .n o => if nrfO o = true then .ok (.n o) (h1.take b) else .stuck
def callB (G : BD) (ds : List D) (h : Own) : Res R := match G h.length ds h with
  | .next _ h1 => exitR h.length (.v .non) h1
  | .ret r h1 => exitR h.length r h1
  | .exc c _ h1 => .exc c (h1.take h.length)
  | _ => .stuck
section
variable {μ μ1 : List Addr} {F F1 H H1 : Hp} {h h1 : Own}
/-- the own heap cut back behind a call -/
theorem cut_ok (R : RelH ca μ F h H) (E : Ext h.length μ F H h μ1 F1 H1 h1) (R1 : RelH ca μ1 F1 h1 H1) : RelH ca μ F1 (h1.take h.length) H1 ∧ ∀ b, b ≤ h.length → Ext b μ F H h μ F1 H1 (h1.take h.length) := by
  obtain ⟨m, em, nm⟩ := E.pre
  have hl : h.length ≤ h1.length := E.len R R1
  have ix : ∀ (n : Nat) (a : Addr), μ[n]? = some a → μ1[n]? = some a := E.ix
  have tk : ∀ (n : Nat) (o : O), (h1.take h.length)[n]? = some o → n < h.length ∧ h1[n]? = some o := fun n o q => by
    have hn : n < h.length := by
      have := (List.getElem?_eq_some_iff.mp q).1
      rw [List.length_take] at this
      omega
    rw [List.getElem?_take, if_pos hn] at q
    exact ⟨hn, q⟩
  refine ⟨⟨by rw [List.length_take, R.len]; omega, R.nd, R1.fz, fun n a o e1 e2 e3 => ?_, fun a ha => R1.dom a (by rw [em]; exact List.mem_append_left _ ha), fun n a o e1 e2 => ?_⟩, fun b hb => ?_⟩
  · exact R1.sep n a o (ix n a e1) (tk n o e2).2 e3
  · obtain ⟨hn, q⟩ := tk n o e2
    have o1 := R1.ob n a o (ix n a e1) q
    rcases E.keep n o hn q with z | z | ⟨o0, z, s⟩
    · exact (R.ob n a o e1 z).back em o1
    · exact o1.nrf z
    · exact o1.old em fun r hr => (R.ob n a o0 e1 z).refs r (subR_iff.mp s r hr)
  · refine ⟨⟨[], by simp, by simp⟩, E.fz, E.frame, E.dom, E.newF, fun k o hk q => ?_, fun n a o f1 f2 f3 => ?_⟩
    · obtain ⟨hn, q⟩ := tk k o q
      exact E.keep k o hn q
    · obtain ⟨w1, w2⟩ := E.st n a o f1 f2 f3
      rw [List.getElem?_take, if_pos (List.getElem?_eq_some_iff.mp f2).1]
      exact ⟨w1, w2⟩
theorem exit_ok {r : R} {Wx : Nat → Hp → Prop} {b : Nat} {v : V} {Q : VK} (R : RelH ca μ F h H) (hb : b ≤ h.length) (E : Ext h.length μ F H h μ1 F1 H1 h1) (R1 : RelH ca μ1 F1 h1 H1) (V1 : RR ca μ1 F1 H H1 v r)
    (p : PostG ca b μ F H h (exitR h.length r h1) Wx fun r μ1 F1 H1 _ => ∀ v, RR ca μ1 F1 H H1 v r → Q v H1) : Q v H1 := by
  obtain ⟨Rc, Ec⟩ := cut_ok R E R1
  obtain ⟨m, em, nm⟩ := E.pre
  cases r with
  | n o =>
    have p' : PostG ca b μ F H h (if nrfO o = true then .ok (.n o) (h1.take h.length) else .stuck) Wx fun r μ1 F1 H1 _ => ∀ v, RR ca μ1 F1 H H1 v r → Q v H1 := p
    by_cases q : nrfO o = true
    · rw [if_pos q] at p'
      obtain ⟨a, e, h0, hd, hm, hF, ho⟩ := V1
      exact p' μ F1 H1 (Ec b hb) Rc v ⟨a, e, h0, hd, fun z => hm (by rw [em]; exact List.mem_append_left _ z), hF, ho.nrf q⟩
    · rw [if_neg q] at p'; exact p'.elim
  | v d =>
    have V1' : VR ca μ1 F1 v d := V1
    have plain : nrf d = true → PostG ca b μ F H h (.ok (.v d) (h1.take h.length)) Wx (fun r μ1 F1 H1 _ => ∀ v, RR ca μ1 F1 H H1 v r → Q v H1) → Q v H1 := fun q p => p μ F1 H1 (Ec b hb) Rc v (show VR ca _ _ _ _ from V1'.nrf q)
    cases d with
    | ref n =>
      have p' : PostG ca b μ F H h (if n < h.length then .ok (.v (.ref n)) (h1.take h.length) else match h1[n]? with
        | some o => if nrfO o = true ∧ notDead o = true then .ok (.n o) (h1.take h.length) else .stuck
        | none => .stuck) Wx fun r μ1 F1 H1 _ => ∀ v, RR ca μ1 F1 H H1 v r → Q v H1 := p
      cases V1' with
      | ref en =>
        rename_i a
        by_cases hn : n < h.length
        · rw [if_pos hn] at p'
          refine p' μ F1 H1 (Ec b hb) Rc _ (show VR ca _ _ _ _ from .ref ?_)
          rw [em, List.getElem?_append_left (by rw [R.len]; exact hn)] at en
          exact en
        · rw [if_neg hn] at p'
          cases e1 : h1[n]? with
          | none => rw [e1] at p'; exact p'.elim
          | some o =>
            rw [e1] at p'
            dsimp only at p'
            by_cases q : nrfO o = true ∧ notDead o = true
            · rw [if_pos q] at p'
              have hnd : o ≠ .dead := by rintro rfl; exact Bool.false_ne_true q.2
              have hin : a ∈ m := by
                rw [em, List.getElem?_append_right (by rw [R.len]; omega)] at en
                exact List.mem_of_getElem? en
              have hnm : a ∉ μ := fun z => R.dom a z (nm a hin)
              exact p' μ F1 H1 (Ec b hb) Rc _ ⟨a, rfl, nm a hin, R1.dom a (List.mem_of_getElem? en), hnm, R1.sep n a o en e1 hnd, (R1.ob n a o en e1).nrf q.1⟩
            · rw [if_neg q] at p'; exact p'.elim
    | non => exact plain rfl (by simpa [exitR, nrf] using p)
    | bl x => exact plain rfl (by simpa [exitR, nrf] using p)
    | int x => exact plain rfl (by simpa [exitR, nrf] using p)
    | str x => exact plain rfl (by simpa [exitR, nrf] using p)
    | tup x =>
      have p' : PostG ca b μ F H h (if nrf (.tup x) = true then .ok (.v (.tup x)) (h1.take h.length) else .stuck) Wx fun r μ1 F1 H1 _ => ∀ v, RR ca μ1 F1 H H1 v r → Q v H1 := p
      by_cases q : nrf (.tup x) = true
      · rw [if_pos q] at p'; exact plain q p'
      · rw [if_neg q] at p'; exact p'.elim
    | lst x =>
      have p' : PostG ca b μ F H h (if nrf (.lst x) = true then .ok (.v (.lst x)) (h1.take h.length) else .stuck) Wx fun r μ1 F1 H1 _ => ∀ v, RR ca μ1 F1 H H1 v r → Q v H1 := p
      by_cases q : nrf (.lst x) = true
      · rw [if_pos q] at p'; exact plain q p'
      · rw [if_neg q] at p'; exact p'.elim
    | dK x =>
      have p' : PostG ca b μ F H h (if nrf (.dK x) = true then .ok (.v (.dK x)) (h1.take h.length) else .stuck) Wx fun r μ1 F1 H1 _ => ∀ v, RR ca μ1 F1 H H1 v r → Q v H1 := p
      by_cases q : nrf (.dK x) = true
      · rw [if_pos q] at p'; exact plain q p'
      · rw [if_neg q] at p'; exact p'.elim
    | dT x =>
      have p' : PostG ca b μ F H h (if nrf (.dT x) = true then .ok (.v (.dT x)) (h1.take h.length) else .stuck) Wx fun r μ1 F1 H1 _ => ∀ v, RR ca μ1 F1 H H1 v r → Q v H1 := p
      by_cases q : nrf (.dT x) = true
      · rw [if_pos q] at p'; exact plain q p'
      · rw [if_neg q] at p'; exact p'.elim
    | obj c x =>
      have p' : PostG ca b μ F H h (if nrf (.obj c x) = true then .ok (.v (.obj c x)) (h1.take h.length) else .stuck) Wx fun r μ1 F1 H1 _ => ∀ v, RR ca μ1 F1 H H1 v r → Q v H1 := p
      by_cases q : nrf (.obj c x) = true
      · rw [if_pos q] at p'; exact plain q p'
      · rw [if_neg q] at p'; exact p'.elim
    | ro x => exact plain rfl p
/-- a call, at the callee's promise -/
theorem call_post {n : Nat} {G : BD} {Wx : Nat → Hp → Prop} {b : Nat} {vs : List V} {ds : List D} {Q : VK} {E : XK} (R : RelH ca μ F h H) (hb : b ≤ h.length) (V1 : VRs ca μ F vs ds) (hn : ds.length = n)
    (hE : ∀ c H, Wx c H → E (.ref (ca.ad c)) none H) (p : PostG ca b μ F H h (callB G ds h) Wx fun r μ1 F1 H1 _ => ∀ v, RR ca μ1 F1 H H1 v r → Q v H1) : spB ca n G vs H Q E := by
  refine ⟨μ, F, h, ds, h.length, R, V1, hn, Nat.le_refl _, ?_⟩
  unfold callB at p
  cases hg : G h.length ds h with
  | next s h1 => rw [hg] at p; exact fun μ1 F1 H1 E1 R1 => exit_ok (r := .v .non) (v := .non) R hb E1 R1 (show VR ca _ _ _ _ from .non) p
  | ret r h1 => rw [hg] at p; exact fun μ1 F1 H1 v E1 R1 V => exit_ok R hb E1 R1 V p
  | exc c s h1 =>
    rw [hg] at p
    intro μ1 F1 H1 E1 R1
    obtain ⟨Rc, Ec⟩ := cut_ok R E1 R1
    exact hE _ _ (p μ F1 H1 (Ec b hb) Rc)
  | _ => rw [hg] at p; exact p.elim
end
def eCall (n : Nat) (G : BD) (xs : EA) : EX := fun τ h => (xs τ h).bind fun ds h1 => if ds.length = n then callB G ds h1 else .stuck
theorem se_call {f : Addr} {fd : FuncData} {ps : List Str} {k : Nat} {G : BD} {x : Str} {p : Pos} {es : List Expr} {xs : EA} (F : FnOk X.prog X.w X.K X.mg X.base (L2.CX X.prog X.w) k f fd ps (spB ca ps.length G)) (hr : Room k X.A) (hg : Gl X x) (hm : X.mg x = some (.ref f))
    (hk : PySem.W.keepIn X.K (.ref f) = true) (hb : Binds X.K fd ps []) (tk : Takes X W) (ha : SA ca X W (e :: es) xs) (hdb : (x == ("__debug__" : Str)) = false) (he : starEach (e :: es) X.env = (false, eval e X.env) :: starEach es X.env)
    (hpl : (backTo pos (starEach es X.env)).any (·.1) = false) : SE ca X W (.Call (.Name x p) (e :: es) [] pos) (eCall ps.length G xs) :=
  PE.imp (pe_callS F hr hg hm hk hb (fun σ => passAt tk σ) ha hdb he hpl) fun σ H Q ⟨μ, F, τ, h, A, p⟩ => ⟨μ, F, τ, h, A, p.bind.imp fun ds μ1 F1 H1 h1 E1 R1 q vs Vs => by
    by_cases hn : ds.length = ps.length
    · rw [if_pos hn] at q
      exact call_post R1 (A.ext E1 R1).bl Vs hn (fun c H z => z) (q.imp fun r μ2 F2 H2 h2 E2 R2 q2 v V => q2 v (RR.back E1 V))
    · rw [if_neg hn] at q
      exact q.elim⟩
/-! ### builtins -/
abbrev FA := List D → Own → Res R
def LkA (ca : Cn) (f : FA) (r : List V → Hp → VK → Prop) : Prop := ∀ (b : Nat) (μ : List Addr) (F H : Hp) (h : Own) (Wx : Nat → Hp → Prop) (vs : List V) (ds : List D) (Q : VK), RelH ca μ F h H → VRs ca μ F vs ds → b ≤ h.length →
  PostG ca b μ F H h (f ds h) Wx (fun r μ1 F1 H1 _ => ∀ v, RR ca μ1 F1 H H1 v r → Q v H1) → r vs H Q
def eA (f : FA) (xs : EA) : EX := fun τ h => (xs τ h).bind fun ds h1 => f ds h1
theorem se_b {f : FA} {r : List V → Hp → VK → Prop} {xs : EA} (h : PE X e (tCB r (rdA ca W xs))) (lk : LkA ca f r) : SE ca X W e (eA f xs) := PE.imp h fun σ H Q ⟨μ, F, τ, h, A, p⟩ => ⟨μ, F, τ, h, A, p.bind.imp fun ds μ1 F1 H1 h1 E1 R1 q vs Vs =>
  lk τ.b μ1 F1 H1 h1 (wx ca W σ) vs ds Q R1 Vs (A.ext E1 R1).bl (q.imp fun r μ2 F2 H2 h2 E2 R2 q2 v V => q2 v (RR.back E1 V))⟩
theorem LkA.or {f g : FA} {r s : List V → Hp → VK → Prop} (a : LkA ca f r) (b : LkA ca g s) : LkA ca (fun x h => match f x h with | .stuck => g x h | z => z) (fun x H Q => r x H Q ∨ s x H Q) := by
  intro n μ F H h Wx x c Q R V1 hb p
  cases e : f c h with
  | stuck => simp only [e] at p; exact .inr (b n μ F H h Wx x c Q R V1 hb p)
  | ok _ _ => simp only [e] at p; exact .inl (a n μ F H h Wx x c Q R V1 hb (by rw [e]; exact p))
  | exc _ _ => simp only [e] at p; exact .inl (a n μ F H h Wx x c Q R V1 hb (by rw [e]; exact p))
/-! ### methods of built-in types -/
abbrev FM := D → List D → Nat → Own → Res R
def LkM (ca : Cn) (f : FM) (r : V → List V → Hp → VK → Prop) : Prop := ∀ (b : Nat) (μ : List Addr) (F H : Hp) (h : Own) (Wx : Nat → Hp → Prop) (x : V) (d : D) (vs : List V) (ds : List D) (Q : VK), RelH ca μ F h H → VR ca μ F x d → VRs ca μ F vs ds → b ≤ h.length →
  PostG ca b μ F H h (f d ds b h) Wx (fun r μ1 F1 H1 _ => ∀ v, RR ca μ1 F1 H H1 v r → Q v H1) → r x vs H Q
/-- the receiver's type -/
def isTy (T : String) (h : Own) : D → Bool
  | .lst _ => T == "list"
  | .str _ => T == "str"
  | .dK _ => T == "dict"
  | .ref n => match h[n]? with
    | some (.lst _) => T == "list"
    | some (.dK _) => T == "dict"
    | _ => false
  | _ => false
def eM (T : String) (f : FM) (x : ED) (xs : EA) : EX := fun τ h => (x τ h).bind fun d h1 => if isTy T h1 d = true then (xs τ h1).bind fun ds h2 => f d ds τ.b h2 else .stuck
theorem isTy_ok {K : PySem.W.Frag} {T : String} {μ : List Addr} {F H : Hp} {h : Own} {v : V} {d : D} (R : RelH ca μ F h H) (V1 : VR ca μ F v d) (e : isTy T h d = true) : tyV K T v H := by
  cases V1 with
  | lst q r => have e' : (T == "list") = true := e; exact Or.inl ⟨by simpa using e', _, SqL.of (R.fz _ _ q)⟩
  | str s => have e' : (T == "str") = true := e; exact (by simpa using e' : T = "str")
  | dK q k r => have e' : (T == "dict") = true := e; exact Or.inr (Or.inr (Or.inl ⟨by simpa using e', Or.inl ⟨_, R.fz _ _ q⟩⟩))
  | ref q =>
    rename_i a n
    unfold isTy at e
    dsimp only at e
    split at e
    · rename_i ds q2
      obtain ⟨vs, q3, r3⟩ := R.ob n _ _ q q2
      exact Or.inl ⟨by simpa using e, _, SqL.of q3⟩
    · rename_i ds q2
      obtain ⟨vs, q3, k3, r3⟩ := R.ob n _ _ q q2
      exact Or.inr (Or.inr (Or.inl ⟨by simpa using e, Or.inl ⟨_, q3⟩⟩))
    · cases e
  | _ => exact (Bool.false_ne_true e).elim
theorem se_m {T : String} {f : FM} {r : V → List V → Hp → VK → Prop} {x : ED} {xs : EA} (h : PE X e (tBM X.K T r (rdD ca W x) (rdA ca W xs))) (lk : LkM ca f r) : SE ca X W e (eM T f x xs) := PE.imp h fun σ H Q ⟨μ, F, τ, h, A, p⟩ => ⟨μ, F, τ, h, A, p.bind.imp fun d μ1 F1 H1 h1 E1 R1 q v V => by
  by_cases ht : isTy T h1 d = true
  · rw [if_pos ht] at q
    exact ⟨isTy_ok R1 V ht, μ1, F1, τ, h1, A.ext E1 R1, q.bind.imp fun ds μ2 F2 H2 h2 E2 R2 q2 vs Vs => lk τ.b μ2 F2 H2 h2 (wx ca W σ) v d vs ds Q R2 (E2.vr V) Vs ((A.ext E1 R1).ext E2 R2).bl
      (q2.imp fun r μ3 F3 H3 h3 E3 R3 q3 u V3 => q3 u (RR.back E1 (RR.back E2 V3)))⟩
  · rw [if_neg ht] at q
    exact q.elim⟩
theorem se_m0 {T : String} {f : FM} {r : V → List V → Hp → VK → Prop} {x : ED} (h : PE X e (tBM0 X.K T r (rdD ca W x))) (lk : LkM ca f r) : SE ca X W e (eM T f x aNil) := PE.imp h fun σ H Q ⟨μ, F, τ, h, A, p⟩ => ⟨μ, F, τ, h, A, p.bind.imp fun d μ1 F1 H1 h1 E1 R1 q v V => by
  by_cases ht : isTy T h1 d = true
  · rw [if_pos ht] at q
    exact ⟨isTy_ok R1 V ht, lk τ.b μ1 F1 H1 h1 (wx ca W σ) v d [] [] Q R1 V .nil (A.ext E1 R1).bl (q.imp fun r μ2 F2 H2 h2 E2 R2 q2 u V2 => q2 u (RR.back E1 V2))⟩
  · rw [if_neg ht] at q
    exact q.elim⟩
end
end Z
set_option Elab.async false
set_option linter.all false
set_option maxRecDepth 100000
set_option maxHeartbeats 1000000
/-! Z9: stores; loops. -/
namespace Z
open PySem PySem.Spec L2
section
variable {ca : Cn} {X : Cx} {W : WF} {pos : Pos} {e a b c : Expr}
/-! ### o[i] = v -/
def subO (h : Own) (n : Nat) (o : O) : Bool := match h[n]? with
  | some o0 => subR o o0
  | none => false
def putO (h : Own) (b n : Nat) (o : O) : Option Own := if b ≤ n ∨ nrfO o = true ∨ subO h n o = true then some (h.set n o) else none
def fPut (b : Nat) (o i v : D) (h : Own) : Option Own := match o with
  | .ref n => match h[n]? with
    | some (.lst ds) => match i with
      | .int k => match ixN ds.length k with
        | some j => putO h b n (.lst (ds.set j v))
        | none => none
      | _ => none
    | some (.dK kds) => match asK i with
      | some k => if kds.length < sizeLine then putO h b n (.dK (putD kds k v)) else none
      | none => none
    | some (.dT kds) => match asKs i with
      | some k => if kds.length < sizeLine then putO h b n (.dT (putD kds k v)) else none
      | none => none
    | _ => none
  | _ => none
def rSetD : TSet := fun o i v H Q => ∃ p H', o = .ref p ∧ DPut H p i v H' ∧ Q H'
theorem set_dict (hu : X.A.units + 1 < cLine) : PSet X rSetD := by
  intro pins s σ H o i v ov iv u Q I ro ri rv ⟨p, H', e, g, q⟩
  subst e
  obtain rfl : ov = Value.ref p := ro
  exact d_setItem hu I g ri rv fun s' I' => ⟨H', I', q⟩
theorem PSet.or {t t' : TSet} (h : PSet X t) (h' : PSet X t') : PSet X fun o i v H Q => t o i v H Q ∨ t' o i v H Q := by
  intro pins s σ H o i v ov iv u Q I ro ri rv q
  rcases q with q | q
  · exact h pins s σ H o i v ov iv u Q I ro ri rv q
  · exact h' pins s σ H o i v ov iv u Q I ro ri rv q
def rSetA : TSet := fun o i v H Q => rSetL o i v H Q ∨ rSetD o i v H Q
theorem set_any (hu : X.A.units + 1 < cLine) : PSet X rSetA := PSet.or set_list (set_dict hu)
theorem put_ok {μ : List Addr} {F H : Hp} {h h1 : Own} {b n : Nat} {a : Addr} {o o0 : O} {u : HO} (R : RelH ca μ F h H) (e : μ[n]? = some a) (e0 : h[n]? = some o0) (n0 : stb o0 = false) (hp : putO h b n o = some h1) (ho : ∀ H', H' a = some u → OR ca μ F H' a o) :
    RelH ca μ F h1 (upd H a u) ∧ Ext b μ F H h μ F (upd H a u) h1 := by
  unfold putO at hp
  by_cases hb : b ≤ n ∨ nrfO o = true ∨ subO h n o = true
  · rw [if_pos hb] at hp
    cases hp
    have hb' : b ≤ n ∨ nrfO o = true ∨ subR o o0 = true := by
      unfold subO at hb
      rw [e0] at hb
      exact hb
    exact ⟨R.put e e0 (by rintro rfl; cases n0) ho, Ext.refl.put R e e0 n0 hb'⟩
  · rw [if_neg hb] at hp; cases hp
theorem fPut_ok {μ : List Addr} {F H : Hp} {h h1 : Own} {b : Nat} {vo vi vv : V} {o i v : D} {Q : Hp → Prop} (R : RelH ca μ F h H) (Vo : VR ca μ F vo o) (Vi : VR ca μ F vi i) (Vv : VR ca μ F vv v) (e : fPut b o i v h = some h1)
    (q : ∀ H1, RelH ca μ F h1 H1 → Ext b μ F H h μ F H1 h1 → Q H1) : rSetA vo vi vv H Q := by
  cases Vo with
  | ref en =>
    rename_i a n
    unfold fPut at e
    dsimp only at e
    split at e
    · rename_i ds e0
      cases Vi with
      | int k =>
        dsimp only at e
        cases ej : ixN ds.length k with
        | none => rw [ej] at e; cases e
        | some j =>
          rw [ej] at e
          obtain ⟨vs, q1, r1⟩ := R.ob n _ _ en e0
          obtain ⟨R2, E2⟩ := put_ok R en e0 rfl e (u := .lst (vs.set j vv)) fun H' q => ⟨_, q, r1.set j Vv⟩
          exact .inl ⟨a, vs, k, j, rfl, rfl, q1, by rw [r1.length]; exact ej, q _ R2 E2⟩
      | _ => cases e
    · rename_i kds e0
      cases ek : asK i with
      | none => rw [ek] at e; cases e
      | some k =>
        rw [ek] at e
        dsimp only at e
        by_cases hl : kds.length < sizeLine
        · rw [if_pos hl] at e
          obtain ⟨kvs, q1, q2, q3⟩ := R.ob n _ _ en e0
          obtain ⟨w1, w2⟩ := vr_put k Vv q2 q3
          have hlen : kvs.length < sizeLine := by have := q3.length; rw [List.length_map, List.length_map] at this; omega
          obtain ⟨R2, E2⟩ := put_ok R en e0 rfl e (u := .dK (putK kvs k vv)) fun H' q => ⟨_, q, w1, w2⟩
          have ei := asK_ok Vi ek
          subst ei
          exact .inr ⟨a, _, rfl, DPut.k q1 hlen, q _ R2 E2⟩
        · rw [if_neg hl] at e; cases e
    · rename_i kds e0
      cases ek : asKs i with
      | none => rw [ek] at e; cases e
      | some k =>
        rw [ek] at e
        dsimp only at e
        by_cases hl : kds.length < sizeLine
        · rw [if_pos hl] at e
          obtain ⟨kvs, q1, q2, q3⟩ := R.ob n _ _ en e0
          obtain ⟨w1, w2⟩ := vr_put k Vv q2 q3
          have hlen : kvs.length < sizeLine := by have := q3.length; rw [List.length_map, List.length_map] at this; omega
          obtain ⟨R2, E2⟩ := put_ok R en e0 rfl e (u := .dT (putK kvs k vv)) fun H' q => ⟨_, q, w1, w2⟩
          obtain ⟨b', rfl, hb⟩ := asKs_ok R.fz Vi ek
          exact .inr ⟨a, _, rfl, DPut.t q1 hb hlen, q _ R2 E2⟩
        · rw [if_neg hl] at e; cases e
    · cases e
  | _ => cases e
/-- o[i] = e: the value first -/
def sPut (o i x : ED) : ST := sE x fun v τ h => sE o (fun d τ h => sE i (fun k τ h => match fPut τ.b d k v h with
  | some h1 => .next τ.s h1
  | none => .stuck) τ h) τ h
theorem ss_put {o i : Expr} {pos' : Pos} {xo xi x : ED} (hu : X.A.units + 1 < cLine) (ho : SD ca X W o xo) (hi : SD ca X W i xi) (hx : SD ca X W e x)
    (ha : ∀ v, assign (.Subscript o i pos') X.env v = (do
      let ov ← holding [v] (eval o X.env)
      let iv ← holding [v, ov] (eval i X.env)
      standAt pos'
      holding [v, ov, iv] (setItem ov iv v)
      release [v, ov, iv] [])) (hs : swapsWithSole [.Subscript o i pos'] e pos.line X.env = pure false) (hw : swappedStores [.Subscript o i pos'] e X.env = pure none)
    (h1 : (assignEach [.Subscript o i pos'] X.env).map (·.2) = [assign (.Subscript o i pos') X.env]) : SS ca X W (.Assign [.Subscript o i pos'] e pos) (sPut xo xi x) :=
  PS.imp (ps_asg hx (pg_sub ho hi (set_any hu) ha) hs hw h1) fun D σ H ⟨μ, F, τ, h, A, p⟩ => ⟨μ, F, τ, h, A, (sE_post A p).imp fun v μ1 F1 H1 h1 E1 R1 q vv Vv => by
    have A1 := A.ext E1 R1
    refine ⟨μ1, F1, τ, h1, A1, (sE_post A1 q).imp fun d μ2 F2 H2 h2 E2 R2 q2 vo Vo => ?_⟩
    have A2 := A1.ext E2 R2
    refine ⟨μ2, F2, τ, h2, A2, (sE_post A2 q2).imp fun k μ3 F3 H3 h3 E3 R3 q3 vi Vi => ?_⟩
    have A3 := A2.ext E3 R3
    cases ep : fPut τ.b d k v h3 with
    | none => rw [ep] at q3; exact q3.elim
    | some h4 =>
      rw [ep] at q3
      exact fPut_ok R3 (E3.vr Vo) Vi (E3.vr (E2.vr Vv)) ep fun H4 R4 E4 => q3 μ3 F3 H4 σ E4 R4 (E4.sr A3.sl)⟩
/-! ### o.f = v -/
def attD (i : Nat) (v : D) (fs : List D) : Option (List D) := if i < fs.length then some (fs.set i v) else if i = fs.length then some (fs ++ [v]) else none
theorem putF_set {f : Str} {v : V} : ∀ {fs : List (Str × V)} {i : Nat}, (fs.map (·.1)).Nodup → (fs.map (·.1))[i]? = some f → putF f v fs = fs.set i (f, v)
  | [], i, _, e => by simp at e
  | (g, x) :: fs, 0, nd, e => by
    simp only [List.map_cons, List.getElem?_cons_zero, Option.some.injEq] at e
    subst e
    simp [putF]
  | (g, x) :: fs, i + 1, nd, e => by
    simp only [List.map_cons, List.getElem?_cons_succ] at e
    rw [List.map_cons, List.nodup_cons] at nd
    have hne : g ≠ f := by rintro rfl; exact nd.1 (List.mem_of_getElem? e)
    rw [putF, if_neg hne, putF_set nd.2 e]
    rfl
theorem putF_new {f : Str} {v : V} : ∀ {fs : List (Str × V)}, f ∉ fs.map (·.1) → putF f v fs = fs ++ [(f, v)]
  | [], _ => rfl
  | (g, x) :: fs, h => by
    rw [List.map_cons, List.mem_cons, not_or] at h
    rw [putF, if_neg (Ne.symm h.1), putF_new h.2]
    rfl
theorem att_ok {μ : List Addr} {F : Hp} {ns : List Str} {f : Str} {i : Nat} {v : V} {d : D} {fs : List (Str × V)} {fds fds' : List D} (nd : ns.Nodup) (ei : ns[i]? = some f) (k : fs.map (·.1) = ns.take fds.length) (r : VRs ca μ F (fs.map (·.2)) fds) (rv : VR ca μ F v d)
    (e : attD i d fds = some fds') : (putF f v fs).map (·.1) = ns.take fds'.length ∧ VRs ca μ F ((putF f v fs).map (·.2)) fds' := by
  have hi : i < ns.length := (List.getElem?_eq_some_iff.mp ei).1
  have hl := r.length
  rw [List.length_map] at hl
  unfold attD at e
  by_cases h1 : i < fds.length
  · rw [if_pos h1] at e
    cases e
    have e1 : (fs.map (·.1))[i]? = some f := by rw [k, List.getElem?_take, if_pos h1]; exact ei
    rw [putF_set (by rw [k]; exact List.Nodup.sublist (List.take_sublist _ _) nd) e1]
    refine ⟨?_, ?_⟩
    · rw [List.length_set, List.map_set, ← k]
      have : (fs.map (·.1))[i]? = some f := e1
      obtain ⟨q1, q2⟩ := List.getElem?_eq_some_iff.mp this
      conv => lhs; rw [show f = (fs.map (·.1))[i] from q2.symm]
      exact List.set_getElem_self q1
    · rw [List.map_set]
      exact r.set i rv
  · rw [if_neg h1] at e
    by_cases h2 : i = fds.length
    · rw [if_pos h2] at e
      cases e
      subst h2
      have hnot : f ∉ fs.map (·.1) := by
        rw [k]
        intro hm
        obtain ⟨j, hj⟩ := List.getElem?_of_mem hm
        have hjl : j < fds.length := by
          have := (List.getElem?_eq_some_iff.mp hj).1
          rw [List.length_take] at this
          omega
        rw [List.getElem?_take, if_pos hjl] at hj
        obtain ⟨l1, q1⟩ := List.getElem?_eq_some_iff.mp hj
        obtain ⟨l2, q2⟩ := List.getElem?_eq_some_iff.mp ei
        have := (List.getElem_inj nd).mp (q1.trans q2.symm)
        omega
      rw [putF_new hnot]
      refine ⟨?_, ?_⟩
      · rw [List.map_append, k, List.length_append, List.length_singleton, List.take_add_one, ei]
        rfl
      · rw [List.map_append]
        exact r.append (.cons rv .nil)
    · rw [if_neg h2] at e; cases e
def fAtt (cs : List Nat) (i b : Nat) (o v : D) (h : Own) : Option Own := match o with
  | .ref n => match h[n]? with
    | some (.ins c fs) => if c ∈ cs ∧ fs.length < 1000 then (match attD i v fs with
      | some fs' => putO h b n (.ins c fs')
      | none => none) else none
    | _ => none
  | _ => none
def sAtt (cs : List Nat) (i : Nat) (o x : ED) : ST := sE x fun v τ h => sE o (fun d τ h => match fAtt cs i τ.b d v h with
  | some h1 => .next τ.s h1
  | none => .stuck) τ h
theorem ss_att {cs : List Nat} {i : Nat} {f : Str} {o : Expr} {pos' : Pos} {xo x : ED} (ho : SD ca X W o xo) (hx : SD ca X W e x) (hc : ∀ c ∈ cs, Cls X.K (ca.ad c) ∧ NoAttr X.K (ca.ad c) f ∧ (ca.nm c).Nodup ∧ (ca.nm c)[i]? = some f)
    (hs : swapsWith e (some (.Attribute o f pos')) pos.line X.env = pure false) : SS ca X W (.Assign [.Attribute o f pos'] e pos) (sAtt cs i xo x) :=
  PS.imp (ps_fld ho hx hs) fun D σ H ⟨μ, F, τ, h, A, p⟩ => ⟨μ, F, τ, h, A, (sE_post A p).imp fun v μ1 F1 H1 h1 E1 R1 q vv Vv => by
    have A1 := A.ext E1 R1
    refine ⟨μ1, F1, τ, h1, A1, (sE_post A1 q).imp fun d μ2 F2 H2 h2 E2 R2 q2 vo Vo => ?_⟩
    have A2 := A1.ext E2 R2
    cases ep : fAtt cs i τ.b d v h2 with
    | none => rw [ep] at q2; exact q2.elim
    | some h3 =>
      rw [ep] at q2
      cases Vo with
      | ref en =>
        rename_i a n
        unfold fAtt at ep
        dsimp only at ep
        split at ep
        · rename_i c fs e0
          by_cases hm : c ∈ cs ∧ fs.length < 1000
          · rw [if_pos hm] at ep
            cases ea : attD i v fs with
            | none => rw [ea] at ep; cases ep
            | some fs' =>
              rw [ea] at ep
              obtain ⟨dx, fvs, w1, w2, w3⟩ := R2.ob n _ _ en e0
              obtain ⟨k1, k2, k3, k4⟩ := hc c hm.1
              obtain ⟨z1, z2⟩ := att_ok k3 k4 w2 w3 (E2.vr Vv) ea
              obtain ⟨R3, E3⟩ := put_ok R2 en e0 rfl ep (u := .ins (ca.ad c) dx (putF f vv fvs)) fun H' q => ⟨dx, _, q, z1, z2⟩
              have hl := w3.length
              rw [List.length_map] at hl
              exact ⟨a, _, dx, fvs, rfl, w1, k1, k2, by omega, q2 μ2 F2 _ σ E3 R3 (E3.sr A2.sl)⟩
          · rw [if_neg hm] at ep; cases ep
        · cases ep
      | _ => cases ep⟩
/-! ### x op= e -/
theorem ss_aug {i : Nat} {n : Str} {op : Operator} {r : R2} {f : F2} {x : ED} {pos' : Pos} (hN : X.N.Nodup) (hi : X.N[i]? = some n) (hx' : Loc X.env.scope n) (hx : SD ca X W e x) (ho : OpR X (inplaceOp op) r) (lk : Lk2 ca f r)
    (hf : X.fn n = true ∨ X.env.scope.names.lookup n = some .local) : SS ca X W (.AugAssign (.Name n pos') op e pos) (sSet i (ed (e2 f (eVar i) x))) :=
  PS.imp (ps_aug hN hi hx' hx ho hf) fun D σ H ⟨μ, F, τ, h, A, p⟩ => by
    have q := sE_post A p
    cases ev : τ.s[i]? with
    | none => exact (show False from by simpa [sSet, sE, ed, e2, eVar, ev, PostS, PostG, Res.bind] using q).elim
    | some od =>
      cases od with
      | none => exact (show False from by simpa [sSet, sE, ed, e2, eVar, ev, PostS, PostG, Res.bind] using q).elim
      | some d0 =>
        obtain ⟨v0, e0, V0⟩ := A.sl.2 i d0 ev
        refine ⟨v0, e0, μ, F, τ, h, A, ?_⟩
        have hv : eVar i τ h = .ok d0 h := by unfold eVar; rw [ev]
        -- the operator's outcome, frozen, stored
        have q' : PostG ca τ.b μ F H h (ed (e2 f (eVar i) x) τ h) (wx ca W σ) fun d μ1 F1 H1 h1 => ∀ v, VR ca μ1 F1 v d → D.nx (σ.set i (some v)) H1 := q.imp fun d μ1 F1 H1 h1 E1 R1 w v V => w μ1 F1 H1 _ Ext.refl R1 ((E1.sr A.sl).set i V)
        have q2 : PostG ca τ.b μ F H h (e2 f (eVar i) x τ h) (wx ca W σ) fun r μ1 F1 H1 _ => ∀ v, RR ca μ1 F1 H H1 v r → D.nx (σ.set i (some v)) H1 := frz_post q'
        have q3 : PostG ca τ.b μ F H h ((x τ h).bind fun y h2 => f d0 y h2) (wx ca W σ) fun r μ1 F1 H1 _ => ∀ v, RR ca μ1 F1 H H1 v r → D.nx (σ.set i (some v)) H1 := by
          unfold e2 at q2
          rw [hv] at q2
          exact q2
        exact q3.bind.imp fun y μ1 F1 H1 h1 E1 R1 w v V => lk τ.b μ1 F1 H1 h1 (wx ca W σ) v0 v d0 y _ R1 (E1.vr V0) V (A.ext E1 R1).bl (w.imp fun r μ2 F2 H2 h2 E2 R2 w2 u V2 => w2 u (RR.back E1 V2))
end
end Z
set_option Elab.async false
set_option linter.all false
set_option maxRecDepth 100000
set_option maxHeartbeats 1000000
/-! Z10: loops, comprehensions. -/
namespace Z
open PySem PySem.Spec L2
section
variable {ca : Cn} {X : Cx} {W : WF} {pos : Pos} {e a b c : Expr}
/-! ### what is walked -/
/-- the own list that is walked stays as it is -/
abbrev Kp := Option (Nat × O)
def kpOk (kp : Kp) (h : Own) : Prop := ∀ n o, kp = some (n, o) → h[n]? = some o
def ItOk (ca : Cn) (ds : List D) (kp : Kp) (J : It) (μ : List Addr) (F H : Hp) (h : Own) : Prop := ∀ b μ2 F2 h2 H2, Ext b μ F H h μ2 F2 H2 h2 → RelH ca μ2 F2 h2 H2 → kpOk kp h2 → ∀ i,
  (i < ds.length → J.go i H2 ∧ ∀ x H3, J.yld i H2 x H3 → ∃ F3 d, ds[i]? = some d ∧ (∀ b, Ext b μ2 F2 H2 h2 μ2 F3 H3 h2) ∧ RelH ca μ2 F3 h2 H3 ∧ VR ca μ2 F3 x d) ∧ (ds.length ≤ i → J.stop i H2)
abbrev EI := Fm → Own → Res (List D × Kp)
def rdI (ca : Cn) (W : WF) (x : EI) : TI := fun σ H R => ∃ μ F τ h, At ca μ F τ h σ H ∧ PostG ca τ.b μ F H h (x τ h) (wx ca W σ) fun p μ1 F1 H1 h1 => kpOk p.2 h1 → ∀ J, ItOk ca p.1 p.2 J μ1 F1 H1 h1 → R J H1
def SI (ca : Cn) (X : Cx) (W : WF) (tg iter : Expr) (x : EI) : Prop := PI X tg iter (rdI ca W x)
theorem PI.imp {X : Cx} {tg e : Expr} {t t' : TI} (h : PI X tg e t) (i : ∀ σ H Q, t' σ H Q → t σ H Q) : PI X tg e t' := ⟨fun pins s σ H Q I q => h.run pins s σ H Q I (i σ H Q q)⟩
/-- a list's or tuple's items -/
def iSeq (x : ED) : EI := fun τ h => (x τ h).bind fun d h1 => match d with
  | .tup ds => .ok (ds, none) h1
  | .lst ds => .ok (ds, none) h1
  | .ref n => match h1[n]? with
    | some (.lst ds) => .ok (ds, some (n, .lst ds)) h1
    | _ => .stuck
  | _ => .stuck
def iSeqR (K : PySem.W.Frag) (tl : TE) : TI := fun σ H R => tl σ H fun x H1 => ∃ a, x = .ref a ∧ (((∃ xs, SqL K H1 a xs) ∧ R (Itl K a) H1) ∨ ((∃ xs, SqT K H1 a xs) ∧ R (Itt K a) H1))
open PyProof.Rows in
theorem pi_seq {tg l : Expr} {tl : TE} (hl : PE X l tl) : PI X tg l (iSeqR X.K tl) := by
  refine ⟨fun pins s σ H R I h => ?_⟩
  refine thn (hl.run pins s σ H _ I h) fun v s1 ⟨x, H1, I1, r1, q1⟩ => ?_
  obtain ⟨a, e, q⟩ := q1
  subst e
  cases r1
  rcases q with ⟨⟨xs, hq⟩, q⟩ | ⟨⟨xs, hq⟩, q⟩
  · obtain ⟨its, rv, p, hz⟩ := I1.list hq
    refine wpAny_pyIter_list p.isList ?_
    refine ⟨s1.heap.objs.size, [s1.heap.objs.size], _, _, H1, rfl, I1.kept (t' := s1.toks) fun b o e => Heap.get?_push_of_some _ e, turn_list a _, ⟨_, Heap.get?_push_size _ rfl, rfl, rfl⟩, fun b hb => ?_, q⟩
    have e : b = s1.heap.objs.size := by simpa using hb
    subst e
    exact I1.fpOk (Nat.le_refl _) (I1.hok.fresh (Nat.le_refl _))
  · obtain ⟨its, rv, p, hz⟩ := I1.tuple hq
    refine wpAny_pyIter_tuple (show s1.heap.IsTuple a its.toArray from p) ?_
    refine ⟨s1.heap.objs.size, [s1.heap.objs.size], _, _, H1, rfl, I1.kept (t' := s1.toks) fun b o e => Heap.get?_push_of_some _ e, turn_tuple a _, ⟨_, Heap.get?_push_size _ rfl, rfl, rfl⟩, fun b hb => ?_, q⟩
    have e : b = s1.heap.objs.size := by simpa using hb
    subst e
    exact I1.fpOk (Nat.le_refl _) (I1.hok.fresh (Nat.le_refl _))
theorem itl_ok {K : PySem.W.Frag} {ds : List D} {kp : Kp} {a : Addr} {μ : List Addr} {F H : Hp} {h : Own} (hh : ∀ b μ2 F2 h2 H2, Ext b μ F H h μ2 F2 H2 h2 → RelH ca μ2 F2 h2 H2 → kpOk kp h2 → ∃ vs, H2 a = some (.lst vs) ∧ VRs ca μ2 F2 vs ds) : ItOk ca ds kp (Itl K a) μ F H h := by
  intro b μ2 F2 h2 H2 E R hk i
  obtain ⟨vs, q, r⟩ := hh b μ2 F2 h2 H2 E R hk
  have hl := r.length
  refine ⟨fun hi => ⟨⟨vs, vs[i]'(by omega), SqL.of q, by rw [List.getElem?_eq_getElem]⟩, fun x H3 y => ?_⟩, fun hi => ⟨vs, SqL.of q, by omega⟩⟩
  obtain ⟨e, y⟩ := y
  subst e
  obtain ⟨d, e1, e2⟩ := r.getV (y vs (SqL.of q))
  exact ⟨F2, d, e1, fun b => Ext.refl, R, e2⟩
theorem itt_ok {K : PySem.W.Frag} {ds : List D} {kp : Kp} {a : Addr} {vs : List V} {μ : List Addr} {F H : Hp} {h : Own} (q : F a = some (.tup vs)) (r : VRs ca μ F vs ds) : ItOk ca ds kp (Itt K a) μ F H h := by
  intro b μ2 F2 h2 H2 E R hk i
  have q2 : H2 a = some (.tup vs) := R.fz _ _ (E.fz _ _ q)
  have r2 := E.vrs r
  have hl := r.length
  refine ⟨fun hi => ⟨⟨vs, vs[i]'(by omega), SqT.of q2, by rw [List.getElem?_eq_getElem]⟩, fun x H3 y => ?_⟩, fun hi => ⟨vs, SqT.of q2, by omega⟩⟩
  obtain ⟨e, y⟩ := y
  subst e
  obtain ⟨d, e1, e2⟩ := r2.getV (y vs (SqT.of q2))
  exact ⟨F2, d, e1, fun b => Ext.refl, R, e2⟩
theorem si_seq {tg : Expr} {x : ED} (hx : SD ca X W e x) : SI ca X W tg e (iSeq x) := PI.imp (pi_seq hx) fun σ H R ⟨μ, F, τ, h, A, p⟩ => ⟨μ, F, τ, h, A, p.bind.imp fun d μ1 F1 H1 h1 E1 R1 q v Vr => by
  cases Vr with
  | @tup a vs ds qt r => exact ⟨a, rfl, .inr ⟨⟨vs, SqT.of (R1.fz _ _ qt)⟩, q.ok R1 (fun n o z => by cases z) _ (itt_ok qt r)⟩⟩
  | @lst a vs ds qt r => exact ⟨a, rfl, .inl ⟨⟨vs, SqL.of (R1.fz _ _ qt)⟩, q.ok R1 (fun n o z => by cases z) _ (itl_ok fun b μ2 F2 h2 H2 E R hk => ⟨vs, R.fz _ _ (E.fz _ _ qt), E.vrs r⟩)⟩⟩
  | @ref a n en =>
    dsimp only at q
    split at q
    · rename_i ds e0
      obtain ⟨vs, q1, r1⟩ := R1.ob n _ _ en e0
      refine ⟨a, rfl, .inl ⟨⟨vs, SqL.of q1⟩, q.ok R1 (fun m o z => by cases z; exact e0) _ (itl_ok fun b μ2 F2 h2 H2 E R hk => ?_)⟩⟩
      exact R.ob n a _ (E.ix n a en) (hk n _ rfl)
    · exact q.elim
  | _ => exact (show False from q).elim⟩
/-- range(..) -/
def rngD (lo : Int) (n : Nat) : List D := (List.range n).map fun i => D.int (lo + (i : Nat))
theorem rngD_len (lo : Int) (n : Nat) : (rngD lo n).length = n := by simp [rngD]
theorem itr_ok {lo : Int} {n : Nat} {μ : List Addr} {F H : Hp} {h : Own} : ItOk ca (rngD lo n) none (Itr lo n) μ F H h := by
  intro b μ2 F2 h2 H2 E R hk i
  rw [rngD_len]
  refine ⟨fun hi => ⟨hi, fun x H3 y => ?_⟩, fun hi => hi⟩
  obtain ⟨e, y⟩ := y
  subst e y
  exact ⟨F2, .int (lo + i), by simp [rngD, hi], fun b => Ext.refl, R, .int _⟩
open Classical in
noncomputable def iR1 (xs : EA) : EI := fun τ h => (xs τ h).bind fun ds h1 => match ds with
  | [.int j] => if R62 j then .ok (rngD 0 j.toNat, none) h1 else .stuck
  | _ => .stuck
open Classical in
noncomputable def iR2 (xs : EA) : EI := fun τ h => (xs τ h).bind fun ds h1 => match ds with
  | [.int i, .int j] => if R62 i ∧ R62 j then .ok (rngD i (j - i).toNat, none) h1 else .stuck
  | _ => .stuck
theorem si_r1 {tg : Expr} {xs : EA} (h : PI X tg e (iRng1 (rdA ca W xs))) : SI ca X W tg e (iR1 xs) := PI.imp h fun σ H R ⟨μ, F, τ, h, A, p⟩ => ⟨μ, F, τ, h, A, p.bind.imp fun ds μ1 F1 H1 h1 E1 R1 q vs Vs => by
  split at q
  · rename_i j
    cases Vs with
    | cons V1 V2 =>
      cases V2
      cases V1
      by_cases hj : R62 j
      · rw [if_pos hj] at q
        exact ⟨j, rfl, (R62.of hj).1, (R62.of hj).2, q.ok R1 (fun n o z => by cases z) _ itr_ok⟩
      · rw [if_neg hj] at q; exact q.elim
  · exact q.elim⟩
theorem si_r2 {tg : Expr} {xs : EA} (h : PI X tg e (iRng2 (rdA ca W xs))) : SI ca X W tg e (iR2 xs) := PI.imp h fun σ H R ⟨μ, F, τ, h, A, p⟩ => ⟨μ, F, τ, h, A, p.bind.imp fun ds μ1 F1 H1 h1 E1 R1 q vs Vs => by
  split at q
  · rename_i i j
    cases Vs with
    | cons V1 V2 =>
      cases V2 with
      | cons V2 V3 =>
      cases V3
      cases V1
      cases V2
      by_cases hj : R62 i ∧ R62 j
      · rw [if_pos hj] at q
        exact ⟨i, j, rfl, ⟨(R62.of hj.1).1, (R62.of hj.1).2, (R62.of hj.2).1, (R62.of hj.2).2⟩, q.ok R1 (fun n o z => by cases z) _ itr_ok⟩
      · rw [if_neg hj] at q; exact q.elim
  · exact q.elim⟩
/-! ### for -/
def clr (cl : List Nat) (s : Sl) : Sl := cl.foldl (fun s i => s.set i none) s
theorem SR.clrs {μ : List Addr} {F : Hp} {σ : L2.St} : ∀ {cl : List Nat} {s : Sl}, SR ca μ F s σ → SR ca μ F (Z.clr cl s) σ
  | [], _, h => h
  | i :: cl, s, h => SR.clrs (cl := cl) (s := s.set i none) (h.clr i)
open Classical in
noncomputable def forGo (kp : Kp) (g : ET) (bd : ST) (cl : List Nat) (b : Nat) : List D → Sl → Own → SRes
  | [], s, h => if kpOk kp h then .next s h else .stuck
  | d :: ds, s, h => if kpOk kp h then
      match g d ⟨b, s⟩ h with
      | .next s1 h1 => match bd ⟨b, s1⟩ h1 with
        | .next s2 h2 => forGo kp g bd cl b ds (clr cl s2) h2
        | .cnt s2 h2 => forGo kp g bd cl b ds (clr cl s2) h2
        | .brk s2 h2 => .next (clr cl s2) h2
        | .ret r h2 => .ret r h2
        | .exc c s2 h2 => .exc c s2 h2
        | .stuck => .stuck
      | _ => .stuck
    else .stuck
noncomputable def sFor (it : EI) (g : ET) (bd : ST) (cl : List Nat) : ST := sE it fun p τ h => forGo p.2 g bd cl τ.b p.1 τ.s h
theorem ss_for {tg iter : Expr} {l : List Stmt} {it : EI} {g : ET} {bd : ST} (cl : List Nat) (hp : PassesOwn (model X.prog X.w) X.A X.env X.xe) (hc : X.calm = true) (hi : SI ca X W tg iter it) (hg : SG ca X W tg g) (hb : SSs ca X W l bd)
    (hs : ∀ x, foldedSetIterable iter X.env x = pure x) : SS ca X W (.For tg iter l [] pos) (sFor it g bd cl) :=
  PS.imp (ps_for hp hc hi hg hb hs) fun D σ H ⟨μ, F, τ, h, A, p⟩ => ⟨μ, F, τ, h, A, (sE_post A p).imp fun pr μ1 F1 H1 h1 E1 R1 q => by
    obtain ⟨ds, kp⟩ := pr
    intro hk J ok
    refine ⟨fun i m σ2 H2 => m = ds.length - i ∧ i ≤ ds.length ∧ ∃ μ2 F2 s2 h2, Ext τ.b μ1 F1 H1 h1 μ2 F2 H2 h2 ∧ At ca μ2 F2 ⟨τ.b, s2⟩ h2 σ2 H2 ∧ PostS ca W τ.b μ2 F2 H2 h2 (forGo kp g bd cl τ.b (ds.drop i) s2 h2) D,
      ⟨ds.length, rfl, Nat.zero_le _, μ1, F1, τ.s, h1, Ext.refl, A.ext E1 R1, q⟩, ?_⟩
    rintro i m σ2 H2 ⟨rfl, hi, μ2, F2, s2, h2, Eg, A2, w⟩
    have hi : i ≤ ds.length := hi
    have hk : kpOk kp h1 := hk
    have ok : ItOk ca ds kp J μ1 F1 H1 h1 := ok
    have hkp : kpOk kp h2 := by
      cases hd : ds.drop i with
      | nil =>
        rw [hd, forGo] at w
        by_cases z : kpOk kp h2
        · exact z
        · rw [if_neg z] at w; exact w.elim
      | cons d r =>
        rw [hd, forGo] at w
        by_cases z : kpOk kp h2
        · exact z
        · rw [if_neg z] at w; exact w.elim
    obtain ⟨k1, k2⟩ := ok τ.b μ2 F2 h2 H2 Eg A2.rel hkp i
    by_cases hlt : i < ds.length
    · obtain ⟨go, yl⟩ := k1 hlt
      refine .inr ⟨go, fun σ' H' => i + 1 ≤ ds.length ∧ ∃ μ2 F2 s2 h2, Ext τ.b μ1 F1 H1 h1 μ2 F2 H' h2 ∧ At ca μ2 F2 ⟨τ.b, s2⟩ h2 σ' H' ∧ PostS ca W τ.b μ2 F2 H' h2 (forGo kp g bd cl τ.b (ds.drop (i + 1)) s2 h2) D,
        fun σ' H' z => ⟨ds.length - (i + 1), by omega, rfl, z.1, z.2⟩, fun x H3 y => ?_⟩
      obtain ⟨F3, d, ed, E3, R3, V3⟩ := yl x H3 y
      have E3' := E3 τ.b
      have A3 : At ca μ2 F3 ⟨τ.b, s2⟩ h2 σ2 H3 := A2.ext E3' R3
      have hd : ds.drop i = d :: ds.drop (i + 1) := by
        rw [List.drop_eq_getElem_cons hlt]
        congr 1
        exact Option.some.inj ((List.getElem?_eq_getElem hlt).symm.trans ed)
      rw [hd, forGo, if_pos hkp] at w
      have w3 := w.step E3'
      cases hgd : g d ⟨τ.b, s2⟩ h2 with
      | next s4 h4 =>
        rw [hgd] at w3
        dsimp only at w3
        refine ⟨μ2, F3, ⟨τ.b, s2⟩, h2, d, A3, V3, s4, h4, hgd, fun μ4 F4 H4 σ4 E4 R4 S4 => ?_⟩
        have A4 : At ca μ4 F4 ⟨τ.b, s4⟩ h4 σ4 H4 := ⟨R4, S4, Nat.le_trans A3.bl (E4.len R3 R4)⟩
        have w4 := w3.step E4
        refine ⟨μ4, F4, ⟨τ.b, s4⟩, h4, A4, ?_⟩
        have again : ∀ {s5 : Sl} {h5 : Own} {μ5 : List Addr} {F5 H5 : Hp} {σ5 : L2.St}, Ext τ.b μ4 F4 H4 h4 μ5 F5 H5 h5 → RelH ca μ5 F5 h5 H5 → SR ca μ5 F5 s5 σ5 → PostS ca W τ.b μ4 F4 H4 h4 (forGo kp g bd cl τ.b (ds.drop (i + 1)) (clr cl s5) h5) D →
            i + 1 ≤ ds.length ∧ ∃ μ2 F2 s2 h2, Ext τ.b μ1 F1 H1 h1 μ2 F2 H5 h2 ∧ At ca μ2 F2 ⟨τ.b, s2⟩ h2 σ5 H5 ∧ PostS ca W τ.b μ2 F2 H5 h2 (forGo kp g bd cl τ.b (ds.drop (i + 1)) s2 h2) D :=
          fun {s5 h5 μ5 F5 H5 σ5} E5 R5 S5 w5 => ⟨hlt, μ5, F5, clr cl s5, h5, Eg.trans (E3'.trans (E4.trans E5)), ⟨R5, S5.clrs, Nat.le_trans A4.bl (E5.len R4 R5)⟩, w5.step E5⟩
        cases hbd : bd ⟨τ.b, s4⟩ h4 with
        | next s5 h5 => rw [hbd] at w4; exact fun μ5 F5 H5 σ5 E5 R5 S5 => again E5 R5 S5 w4
        | cnt s5 h5 => rw [hbd] at w4; exact fun μ5 F5 H5 σ5 E5 R5 S5 => again E5 R5 S5 w4
        | brk s5 h5 => rw [hbd] at w4; exact fun μ5 F5 H5 σ5 E5 R5 S5 => w4 μ5 F5 H5 σ5 E5 R5 S5.clrs
        | ret r h5 => rw [hbd] at w4; exact fun μ5 F5 H5 v E5 R5 V5 => w4 μ5 F5 H5 v E5 R5 V5
        | exc c s5 h5 => rw [hbd] at w4; exact fun μ5 F5 H5 σ5 E5 R5 S5 => w4 μ5 F5 H5 σ5 E5 R5 S5
        | stuck => rw [hbd] at w4; exact w4.elim
      | _ => rw [hgd] at w3; exact w3.elim
    · refine .inl ⟨k2 (by omega), ?_⟩
      rw [List.drop_eq_nil_of_le (by omega), forGo, if_pos hkp] at w
      exact w μ2 F2 H2 σ2 Ext.refl A2.rel A2.sl⟩
/-! ### while -/
def whGo (t : EB) (bd : ST) (cl : List Nat) (b : Nat) : Nat → Sl → Own → SRes
  | 0, _, _ => .stuck
  | n + 1, s, h => match t ⟨b, s⟩ h with
    | .ok true h1 => match bd ⟨b, s⟩ h1 with
      | .next s2 h2 => whGo t bd cl b n (clr cl s2) h2
      | .cnt s2 h2 => whGo t bd cl b n (clr cl s2) h2
      | .brk s2 h2 => .next (clr cl s2) h2
      | .ret r h2 => .ret r h2
      | .exc c s2 h2 => .exc c s2 h2
      | .stuck => .stuck
    | .ok false h1 => .next s h1
    | .exc c h1 => .exc c s h1
    | .stuck => .stuck
/-- how many turns are allowed -/
def wMax : Nat := 1000000000
def sWh (t : EB) (bd : ST) (cl : List Nat) : ST := fun τ h => whGo t bd cl τ.b wMax τ.s h
theorem ss_while {l : List Stmt} {t : EB} {bd : ST} (cl : List Nat) (hp : PassesOwn (model X.prog X.w) X.A X.env X.xe) (hc : SB ca X W c t) (hb : SSs ca X W l bd) : SS ca X W (.While c l [] pos) (sWh t bd cl) :=
  PS.imp (ps_while hp hc hb) fun D σ H ⟨μ, F, τ, h, A, p⟩ => by
    have p' : PostS ca W τ.b μ F H h (whGo t bd cl τ.b wMax τ.s h) D := p
    refine ⟨fun m σ2 H2 => ∃ μ2 F2 s2 h2, At ca μ2 F2 ⟨τ.b, s2⟩ h2 σ2 H2 ∧ PostS ca W τ.b μ2 F2 H2 h2 (whGo t bd cl τ.b m s2 h2) D, ⟨wMax, μ, F, τ.s, h, A, p'⟩, ?_⟩
    rintro m σ2 H2 ⟨μ2, F2, s2, h2, A2, w⟩
    cases m with
    | zero => exact w.elim
    | succ m =>
      rw [whGo] at w
      refine ⟨μ2, F2, ⟨τ.b, s2⟩, h2, A2, ?_⟩
      cases ht : t ⟨τ.b, s2⟩ h2 with
      | stuck => rw [ht] at w; exact w.elim
      | exc c h3 => rw [ht] at w; exact fun μ3 F3 H3 E3 R3 => w μ3 F3 H3 σ2 E3 R3 (E3.sr A2.sl)
      | ok k h3 =>
        rw [ht] at w
        intro μ3 F3 H3 E3 R3
        have A3 := A2.ext E3 R3
        cases k with
        | false => show D.nx σ2 H3; exact w μ3 F3 H3 σ2 E3 R3 (E3.sr A2.sl)
        | true =>
          show ∃ N : L2.St → Hp → Prop, (∀ σ' H', N σ' H' → ∃ m', m' < m + 1 ∧ ∃ μ2 F2 s2 h2, At ca μ2 F2 ⟨τ.b, s2⟩ h2 σ' H' ∧ PostS ca W τ.b μ2 F2 H' h2 (whGo t bd cl τ.b m' s2 h2) D) ∧ rdS ca W bd { D with nx := N, ct := N, bk := D.nx } σ2 H3
          dsimp only at w
          have w3 := w.step E3
          refine ⟨fun σ' H' => ∃ μ2 F2 s2 h2, At ca μ2 F2 ⟨τ.b, s2⟩ h2 σ' H' ∧ PostS ca W τ.b μ2 F2 H' h2 (whGo t bd cl τ.b m s2 h2) D, fun σ' H' z => ⟨m, Nat.lt_succ_self _, z⟩, μ3, F3, ⟨τ.b, s2⟩, h3, A3, ?_⟩
          have again : ∀ {s5 : Sl} {h5 : Own} {μ5 : List Addr} {F5 H5 : Hp} {σ5 : L2.St}, Ext τ.b μ3 F3 H3 h3 μ5 F5 H5 h5 → RelH ca μ5 F5 h5 H5 → SR ca μ5 F5 s5 σ5 → PostS ca W τ.b μ3 F3 H3 h3 (whGo t bd cl τ.b m (clr cl s5) h5) D →
              ∃ μ2 F2 s2 h2, At ca μ2 F2 ⟨τ.b, s2⟩ h2 σ5 H5 ∧ PostS ca W τ.b μ2 F2 H5 h2 (whGo t bd cl τ.b m s2 h2) D :=
            fun {s5 h5 μ5 F5 H5 σ5} E5 R5 S5 w5 => ⟨μ5, F5, clr cl s5, h5, ⟨R5, S5.clrs, Nat.le_trans A3.bl (E5.len R3 R5)⟩, w5.step E5⟩
          cases hbd : bd ⟨τ.b, s2⟩ h3 with
          | next s5 h5 => rw [hbd] at w3; exact fun μ5 F5 H5 σ5 E5 R5 S5 => again E5 R5 S5 w3
          | cnt s5 h5 => rw [hbd] at w3; exact fun μ5 F5 H5 σ5 E5 R5 S5 => again E5 R5 S5 w3
          | brk s5 h5 => rw [hbd] at w3; exact fun μ5 F5 H5 σ5 E5 R5 S5 => w3 μ5 F5 H5 σ5 E5 R5 S5.clrs
          | ret r h5 => rw [hbd] at w3; exact fun μ5 F5 H5 v E5 R5 V5 => w3 μ5 F5 H5 v E5 R5 V5
          | exc c s5 h5 => rw [hbd] at w3; exact fun μ5 F5 H5 σ5 E5 R5 S5 => w3 μ5 F5 H5 σ5 E5 R5 S5
          | stuck => rw [hbd] at w3; exact w3.elim
end
end Z
set_option Elab.async false
set_option linter.all false
set_option maxRecDepth 100000
set_option maxHeartbeats 1000000
/-! Z11: comprehensions. -/
namespace Z
open PySem PySem.Spec L2
section
variable {ca : Cn} {X : Cx} {W : WF} {pos : Pos} {e a b c : Expr}
abbrev W0 : WF := fun _ _ _ _ => False
theorem wipe_get {σ : L2.St} : ∀ (vs : List Nat) (j : Nat), (wipe σ vs)[j]? = if j ∈ vs ∧ j < σ.length then some none else σ[j]?
  | [], j => by simp [wipe]
  | v :: vs, j => by
    rw [wipe]
    by_cases hj : v = j
    · subst hj
      by_cases hl : v < σ.length
      · rw [List.getElem?_set_self (by rw [wipe_length]; exact hl), if_pos ⟨List.mem_cons_self, hl⟩]
      · rw [if_neg (fun z => hl z.2), List.getElem?_eq_none (by rw [List.length_set, wipe_length]; omega), List.getElem?_eq_none (by omega)]
    · rw [List.getElem?_set_ne hj, wipe_get vs j]
      by_cases hm : j ∈ vs
      · by_cases hl : j < σ.length
        · rw [if_pos ⟨hm, hl⟩, if_pos ⟨List.mem_cons_of_mem _ hm, hl⟩]
        · rw [if_neg (fun z => hl z.2), if_neg (fun z => hl z.2)]
      · rw [if_neg (fun z => hm z.1), if_neg (fun z => by rcases List.mem_cons.mp z.1 with q | q; exact hj q.symm; exact hm q)]
theorem wipe_set {σ : L2.St} {i : Nat} {x : Option V} {vs : List Nat} (h : i ∈ vs) : wipe (σ.set i x) vs = wipe σ vs := by
  apply List.ext_getElem?
  intro j
  rw [wipe_get, wipe_get, List.length_set]
  by_cases hj : j ∈ vs ∧ j < σ.length
  · rw [if_pos hj, if_pos hj]
  · rw [if_neg hj, if_neg hj]
    by_cases hi : i = j
    · subst hi
      have hl : ¬ i < σ.length := fun z => hj ⟨h, z⟩
      rw [List.getElem?_eq_none (by rw [List.length_set]; omega), List.getElem?_eq_none (by omega)]
    · rw [List.getElem?_set_ne hi]
theorem clr_len : ∀ (cl : List Nat) (s : Sl), (Z.clr cl s).length = s.length
  | [], s => rfl
  | i :: cl, s => by
    show (Z.clr cl (s.set i none)).length = _
    rw [clr_len cl, List.length_set]
theorem clr_get : ∀ (cl : List Nat) (s : Sl) (j : Nat) (d : D), (Z.clr cl s)[j]? = some (some d) → s[j]? = some (some d) ∧ j ∉ cl
  | [], s, j, d, h => ⟨h, by simp⟩
  | i :: cl, s, j, d, h => by
    obtain ⟨h1, h2⟩ := clr_get cl (s.set i none) j d h
    by_cases hi : i = j
    · subst hi
      by_cases hl : i < s.length
      · rw [List.getElem?_set_self hl] at h1; cases h1
      · rw [List.getElem?_eq_none (by rw [List.length_set]; omega)] at h1; cases h1
    · rw [List.getElem?_set_ne hi] at h1
      exact ⟨h1, by simp only [List.mem_cons, not_or]; exact ⟨fun z => hi z.symm, h2⟩⟩
theorem SR.wipe {μ : List Addr} {F : Hp} {s : Sl} {σ : L2.St} (h : SR ca μ F s σ) (vs : List Nat) : SR ca μ F (Z.clr vs s) (L2.wipe σ vs) := by
  refine ⟨by rw [clr_len, wipe_length]; exact h.1, fun i d q => ?_⟩
  obtain ⟨q1, q2⟩ := clr_get vs s i d q
  obtain ⟨v, e, r⟩ := h.2 i d q1
  exact ⟨v, by rw [wipe_get, if_neg (fun z => q2 z.1)]; exact e, r⟩
/-! ### a comprehension's targets -/
def rdGw (ca : Cn) (vs : List Nat) (g : ET) : TG := fun v σ H Q => ∃ μ F τ h d, At ca μ F τ h σ H ∧ VR ca μ F v d ∧ ∃ s1 h1, g d τ h = .next s1 h1 ∧ ∀ μ1 F1 H1 σ1, Ext τ.b μ F H h μ1 F1 H1 h1 → RelH ca μ1 F1 h1 H1 → SR ca μ1 F1 s1 σ1 → wipe σ1 vs = wipe σ vs → Q σ1 H1
def SGw (ca : Cn) (X : Cx) (vs : List Nat) (tg : Expr) (g : ET) : Prop := PG X tg (rdGw ca vs g)
def rdGws (ca : Cn) (vs : List Nat) (g : ETs) : TGs := fun ws σ H Q => ∃ μ F τ h ds, At ca μ F τ h σ H ∧ VRs ca μ F ws ds ∧ ∃ s1 h1, g ds τ h = .next s1 h1 ∧ ∀ μ1 F1 H1 σ1, Ext τ.b μ F H h μ1 F1 H1 h1 → RelH ca μ1 F1 h1 H1 → SR ca μ1 F1 s1 σ1 → wipe σ1 vs = wipe σ vs → Q σ1 H1
def SGws (ca : Cn) (X : Cx) (vs : List Nat) (tg : List Expr) (g : ETs) : Prop := PGs X tg (rdGws ca vs g)
variable {vs : List Nat}
theorem sgw_name {tg : Expr} {i : Nat} (h : PG X tg (gName i)) (hi : i ∈ vs) : SGw ca X vs tg (tN i) := PG.imp h fun v σ H Q ⟨μ, F, τ, h, d, A, V, s1, h1, e, p⟩ => by
  cases e
  exact p μ F H _ Ext.refl A.rel (A.sl.set i V) (wipe_set hi)
theorem sgws_nil : SGws ca X vs [] tNil := PGs.imp pgs_nil fun ws σ H Q ⟨μ, F, τ, h, ds, A, V, s1, h1, e, p⟩ => by
  cases V with
  | nil => cases e; exact ⟨rfl, p μ F H σ Ext.refl A.rel A.sl rfl⟩
  | cons _ _ => cases e
theorem sgws_cons {es : List Expr} {g : ET} {gs : ETs} (h1 : SGw ca X vs e g) (h2 : SGws ca X vs es gs) (hs : (assignEach (e :: es) X.env).map (·.2) = assign e X.env :: (assignEach es X.env).map (·.2)) : SGws ca X vs (e :: es) (tCons g gs) := PGs.imp (pgs_cons h1 h2 hs) fun ws σ H Q ⟨μ, F, τ, h, ds, A, V, s1, h1, e, p⟩ => by
  cases V with
  | nil => cases e
  | @cons v d ws ds r t =>
    unfold tCons at e
    dsimp only at e
    cases hg : g d τ h with
    | next s h2 =>
      rw [hg] at e
      exact ⟨_, _, rfl, μ, F, τ, h, d, A, r, s, h2, hg, fun μ1 F1 H1 σ1 E1 R1 S1 w1 => ⟨μ1, F1, ⟨τ.b, s⟩, h2, ds, ⟨R1, S1, Nat.le_trans A.bl (E1.len A.rel R1)⟩, E1.vrs t, s1, h1, e, fun μ2 F2 H2 σ2 E2 R2 S2 w2 => p μ2 F2 H2 σ2 (E1.trans E2) R2 S2 (w2.trans w1)⟩⟩
    | _ => rw [hg] at e; cases e
theorem sgw_tup {es : List Expr} {k n : Nat} {gs : ETs} (hc : X.calm = true) (h : SGws ca X vs es gs) (hl : LenOk gs n) (hn : (assignEach es X.env).length = n) (hst : (assignEach es X.env).findIdx? (·.1) = none) : SGw ca X vs (.Tuple es k pos) (tTup gs) :=
  PG.imp (pg_tup hc h hn hst) fun v σ H Q ⟨μ, F, τ, h, d, A, V, s1, h1, e, p⟩ => by
    cases V with
    | tup q r => exact ⟨_, _, rfl, SqT.of (A.rel.fz _ _ q), by rw [r.length]; exact hl _ _ _ _ _ e, μ, F, τ, h, _, A, r, s1, h1, e, p⟩
    | _ => cases e
/-! ### [x for .. if ..] -/
def bYes : EB := fun _ h => .ok true h
def STs (ca : Cn) (X : Cx) (l : List Expr) (t : EB) : Prop := PTs X l (rdB ca W0 t)
theorem PTs.imp {X : Cx} {e : List Expr} {t t' : TT} (h : PTs X e t) (i : ∀ σ H Q, t' σ H Q → t σ H Q) : PTs X e t' := ⟨fun pins s σ H Q I q => h.run pins s σ H Q I (i σ H Q q)⟩
theorem sts_nil : STs ca X [] bYes := PTs.imp pts_nil fun σ H Q ⟨μ, F, τ, h, A, p⟩ => p.ok A.rel
theorem sts_one {t : EB} (h : SB ca X W0 c t) : STs ca X [c] t := pts_one h
open Classical in
noncomputable def compGo (kp : Kp) (g : ET) (t : EB) (x : ED) (b : Nat) (s : Sl) : List D → Own → List D → Res R
  | [], h, acc => if kpOk kp h then .ok (.n (.lst acc)) h else .stuck
  | d :: ds, h, acc => if kpOk kp h then
      match g d ⟨b, s⟩ h with
      | .next s1 h1 => match t ⟨b, s1⟩ h1 with
        | .ok true h2 => match x ⟨b, s1⟩ h2 with
          | .ok y h3 => if acc.length < sizeLine then compGo kp g t x b s ds h3 (acc ++ [y]) else .stuck
          | _ => .stuck
        | .ok false h2 => compGo kp g t x b s ds h2 acc
        | _ => .stuck
      | _ => .stuck
    else .stuck
noncomputable def eComp (it : EI) (g : ET) (t : EB) (x : ED) (vs : List Nat) : EX := fun τ h => (it τ h).bind fun p h1 => compGo p.2 g t x τ.b (Z.clr vs τ.s) p.1 h1 []
theorem comp_rd {wi : TI} {it : EI} {g : ET} {t : EB} {x : ED} {σ : L2.St} {H : Hp} {Q : VK} (h : rdE ca W (eComp it g t x vs) σ H Q) : tLc (rdI ca W it) (rdGw ca vs g) (rdB ca W0 t) (rdD ca W0 x) vs σ H Q := by
  obtain ⟨μ, F, τ, h, A, p⟩ := h
  refine ⟨μ, F, τ, h, A, ?_⟩
  unfold eComp at p
  cases hit : it τ h with
  | stuck => rw [hit] at p; exact p
  | exc c h1 => rw [hit] at p; exact p
  | ok pr h1 =>
    rw [hit] at p
    obtain ⟨ds, kp⟩ := pr
    intro μ1 F1 H1 E1 R1 hk J ok D hD
    have hk : kpOk kp h1 := hk
    have ok : ItOk ca ds kp J μ1 F1 H1 h1 := ok
    have p : PostG ca τ.b μ F H h (compGo kp g t x τ.b (Z.clr vs τ.s) ds h1 []) (wx ca W σ) fun r μ1 F1 H1 _ => ∀ v, RR ca μ1 F1 H H1 v r → Q v H1 := p
    have hD0 : H D = none := E1.fresh hD
    have dF : F1 D = none := by
      cases q : F1 D with
      | none => rfl
      | some w => have := R1.fz _ _ q; rw [hD] at this; cases this
    have dM : D ∉ μ1 := fun z => R1.dom D z hD
    refine ⟨fun i m H2 => m = ds.length - i ∧ i ≤ ds.length ∧ ∃ μ2 F2 h2 ws acc, Ext τ.b μ F H h μ2 F2 H2 h2 ∧ Ext τ.b μ1 F1 H1 h1 μ2 F2 H2 h2 ∧ RelH ca μ2 F2 h2 H2 ∧ H2 D = some (.lst ws) ∧ VRs ca μ2 F2 ws acc ∧ D ∉ μ2 ∧ F2 D = none ∧
      PostG ca τ.b μ F H h (compGo kp g t x τ.b (Z.clr vs τ.s) (ds.drop i) h2 acc) (wx ca W σ) fun r μ1 F1 H1 _ => ∀ v, RR ca μ1 F1 H H1 v r → Q v H1,
      ⟨ds.length, rfl, Nat.zero_le _, μ1, F1, h1, [], [], E1.upd hD, Ext.refl.upd hD, R1.upd hD, upd_same, .nil, dM, dF, p⟩, ?_⟩
    rintro i m H2 ⟨rfl, hi, μ2, F2, h2, ws, acc, E2, Eg, R2, q2, V2, nM, nF, w⟩
    have hkp : kpOk kp h2 := by
      cases hd : ds.drop i with
      | nil =>
        rw [hd, compGo] at w
        by_cases z : kpOk kp h2
        · exact z
        · rw [if_neg z] at w; exact w.elim
      | cons d r =>
        rw [hd, compGo] at w
        by_cases z : kpOk kp h2
        · exact z
        · rw [if_neg z] at w; exact w.elim
    obtain ⟨k1, k2⟩ := ok τ.b μ2 F2 h2 H2 Eg R2 hkp i
    by_cases hlt : i < ds.length
    · obtain ⟨go, yl⟩ := k1 hlt
      refine .inr ⟨go, fun H' => i + 1 ≤ ds.length ∧ ∃ μ2 F2 h2 ws acc, Ext τ.b μ F H h μ2 F2 H' h2 ∧ Ext τ.b μ1 F1 H1 h1 μ2 F2 H' h2 ∧ RelH ca μ2 F2 h2 H' ∧ H' D = some (.lst ws) ∧ VRs ca μ2 F2 ws acc ∧ D ∉ μ2 ∧ F2 D = none ∧
          PostG ca τ.b μ F H h (compGo kp g t x τ.b (Z.clr vs τ.s) (ds.drop (i + 1)) h2 acc) (wx ca W σ) fun r μ1 F1 H1 _ => ∀ v, RR ca μ1 F1 H H1 v r → Q v H1,
        fun H' z => ⟨ds.length - (i + 1), by omega, rfl, z.1, z.2⟩, fun y H3 yy => ?_⟩
      obtain ⟨F3, d, ed, E3, R3, V3⟩ := yl y H3 yy
      have E3' := E3 τ.b
      -- what stays of the new list through a step
      have stay : ∀ {μ4 : List Addr} {F4 H4 : Hp} {h4 : Own}, Ext τ.b μ2 F2 H2 h2 μ4 F4 H4 h4 → H4 D = some (.lst ws) ∧ D ∉ μ4 ∧ F4 D = none := fun {μ4 F4 H4 h4} E => by
        refine ⟨E.frame D _ q2 nM, fun z => ?_, ?_⟩
        · obtain ⟨m, e1, e2⟩ := E.pre
          rw [e1] at z
          rcases List.mem_append.mp z with z | z
          · exact nM z
          · rw [e2 D z] at q2; cases q2
        · cases q : F4 D with
          | none => rfl
          | some u =>
            rcases E.newF D (by rw [q]; simp) with z | z | z | ⟨_, z⟩ | ⟨_, z⟩
            · exact absurd nF z
            · exact absurd z nM
            · rw [z] at q2; cases q2
            · rw [z] at q2; cases q2
            · rw [z] at q2; unfold LamX.CodeO at q2; cases q2
      have hd : ds.drop i = d :: ds.drop (i + 1) := by
        rw [List.drop_eq_getElem_cons hlt]
        congr 1
        exact Option.some.inj ((List.getElem?_eq_getElem hlt).symm.trans ed)
      rw [hd, compGo, if_pos hkp] at w
      have hbl : τ.b ≤ h2.length := Nat.le_trans A.bl (E2.len A.rel R2)
      have S3 : SR ca μ2 F3 (Z.clr vs τ.s) (L2.wipe σ vs) := SR.wipe (E3'.sr (E2.sr A.sl)) vs
      cases hgd : g d ⟨τ.b, Z.clr vs τ.s⟩ h2 with
      | next s4 h4 =>
        rw [hgd] at w
        dsimp only at w
        refine ⟨μ2, F3, ⟨τ.b, Z.clr vs τ.s⟩, h2, d, ⟨R3, S3, hbl⟩, V3, s4, h4, hgd, fun μ4 F4 H4 σ4 E4 R4 S4 w4 => ⟨?_, ?_⟩⟩
        · rw [w4]
          apply List.ext_getElem?
          intro j
          rw [wipe_get, wipe_get, wipe_length]
          by_cases hj : j ∈ vs ∧ j < σ.length
          · rw [if_pos hj, if_pos hj]
          · rw [if_neg hj, if_neg hj]
        · have bl4 : τ.b ≤ h4.length := Nat.le_trans hbl (E4.len R3 R4)
          refine ⟨μ4, F4, ⟨τ.b, s4⟩, h4, ⟨R4, S4, bl4⟩, ?_⟩
          cases ht : t ⟨τ.b, s4⟩ h4 with
          | stuck => rw [ht] at w; exact w.elim
          | exc c h5 => rw [ht] at w; exact w.elim
          | ok k h5 =>
            rw [ht] at w
            intro μ5 F5 H5 E5 R5
            have bl5 : τ.b ≤ h5.length := Nat.le_trans bl4 (E5.len R4 R5)
            cases k with
            | false =>
              dsimp only at w
              obtain ⟨z1, z2, z3⟩ := stay (E3'.trans (E4.trans E5))
              exact ⟨hlt, μ5, F5, h5, ws, acc, E2.trans (E3'.trans (E4.trans E5)), Eg.trans (E3'.trans (E4.trans E5)), R5, z1, (E3'.trans (E4.trans E5)).vrs V2, z2, z3, w⟩
            | true =>
              dsimp only at w
              show rdD ca W0 x σ4 H5 _
              refine ⟨μ5, F5, ⟨τ.b, s4⟩, h5, ⟨R5, E5.sr S4, bl5⟩, ?_⟩
              cases hx : x ⟨τ.b, s4⟩ h5 with
              | stuck => rw [hx] at w; exact w.elim
              | exc c h6 => rw [hx] at w; exact w.elim
              | ok y6 h6 =>
                rw [hx] at w
                dsimp only at w
                by_cases hl : acc.length < sizeLine
                · rw [if_pos hl] at w
                  intro μ6 F6 H6 E6 R6 v6 V6
                  have Ea := E3'.trans (E4.trans (E5.trans E6))
                  obtain ⟨z1, z2, z3⟩ := stay Ea
                  exact ⟨ws, z1, by rw [V2.length]; exact hl, hlt, μ6, F6, h6, ws ++ [v6], acc ++ [y6], (E2.trans Ea).updFree hD0, (Eg.trans Ea).updFree hD, R6.updFree z2 z3, upd_same, (Ea.vrs V2).append (.cons V6 .nil), z2, z3, w⟩
                · rw [if_neg hl] at w; exact w.elim
      | _ => rw [hgd] at w; exact w.elim
    · refine .inl ⟨k2 (by omega), ?_⟩
      rw [List.drop_eq_nil_of_le (by omega), compGo, if_pos hkp] at w
      exact w μ2 F2 H2 E2 R2 (.ref D) ⟨D, rfl, hD0, by rw [q2]; simp, nM, nF, ws, q2, V2⟩
theorem se_lc {elt tg iter : Expr} {ifs : List Expr} {scope : Scope} {own : List (Str × Nat)} {it : EI} {g : ET} {t : EB} {x : ED} (hc : X.calm = true) (hN : X.N.Nodup) (hi : SI ca X W tg iter it) (ok : BlkOk X.N X.env.scope scope own)
    (hg : ∀ (s : Shared) (H : Hp) (C : Addr) (cl : List (Str × Addr)) (fp : List Addr), SGw ca (X.blk s H scope (compEnvC scope cl C X.env) fp) (own.map (·.2)) tg g) (ht : ∀ (s : Shared) (H : Hp) (C : Addr) (cl : List (Str × Addr)) (fp : List Addr), STs ca (X.blk s H scope (compEnvC scope cl C X.env) fp) ifs t)
    (he : ∀ (s : Shared) (H : Hp) (C : Addr) (cl : List (Str × Addr)) (fp : List Addr), SD ca (X.blk s H scope (compEnvC scope cl C X.env) fp) W0 elt x) (hs : ∀ x, foldedSetIterable iter X.env x = pure x) :
    SE ca X W (.ListComp elt [⟨tg, iter, ifs, 0⟩] scope pos) (eComp it g t x (own.map (·.2))) := PE.imp (pe_lc hc hN hi ok hg ht he hs) fun σ H Q h => comp_rd (wi := rdI ca W it) h
end
end Z
set_option Elab.async false
set_option linter.all false
set_option maxRecDepth 100000
set_option maxHeartbeats 1000000
/-! Z12: comprehensions stored, dicts made and walked, instances made. -/
namespace Z
open PySem PySem.Spec L2
section
variable {ca : Cn} {X : Cx} {W : WF} {pos : Pos} {e a b c : Expr}
theorem al_post {μ : List Addr} {F H : Hp} {h : Own} {Wx : Nat → Hp → Prop} {r : Res R} {Q : VK} {b : Nat} (R0 : RelH ca μ F h H) (hb : b ≤ h.length)
    (p : PostG ca b μ F H h (r.bind fun r h1 => match r with | .v d => .ok d h1 | .n o => .ok (.ref h1.length) (h1 ++ [o])) Wx fun d μ1 F1 H1 _ => ∀ v, VR ca μ1 F1 v d → Q v H1) :
    PostG ca b μ F H h r Wx fun r μ1 F1 H1 _ => ∀ v, RR ca μ1 F1 H H1 v r → Q v H1 := by
  cases r with
  | stuck => exact p
  | exc c h1 => exact p
  | ok r h1 =>
    intro μ1 F1 H1 E1 R1 v V
    cases r with
    | v d => exact p μ1 F1 H1 E1 R1 v V
    | n o =>
      obtain ⟨a, rfl, h0, hd, hm, hF, ho⟩ := V
      have p' : PostG ca b μ F H h (.ok (.ref h1.length) (h1 ++ [o])) Wx fun d μ1 F1 H1 _ => ∀ v, VR ca μ1 F1 v d → Q v H1 := p
      refine p' _ _ _ (E1.alloc h0 (Nat.le_trans hb (E1.len R0 R1))) (R1.alloc hd hm hF ho) _ (.ref ?_)
      rw [← R1.len]
      simp
theorem set_post {i : Nat} {x : ED} {μ : List Addr} {F H : Hp} {h : Own} {τ : Fm} {σ : L2.St} {D : Ends} (A : At ca μ F τ h σ H) (p : PostS ca W τ.b μ F H h (sSet i x τ h) D) :
    PostG ca τ.b μ F H h (x τ h) (wx ca W σ) fun d μ1 F1 H1 _ => ∀ v, VR ca μ1 F1 v d → D.nx (σ.set i (some v)) H1 :=
  (sE_post A p).imp fun d μ1 F1 H1 h1 E1 R1 w v V => w μ1 F1 H1 _ Ext.refl R1 ((E1.sr A.sl).set i V)
section
variable {i : Nat} {y : Str} {py : Pos} {elt tg iter : Expr} {ifs : List Expr} {scope : Scope} {own : List (Str × Nat)} {spos : Pos} {it : EI} {g : ET} {t : EB} {x : ED}
/-- name = [..], frozen or an own list -/
theorem ss_setLc (hc : X.calm = true) (hN : X.N.Nodup) (hy : X.N[i]? = some y) (hyl : X.env.scope.names.lookup y = some .local)
    (hsw : swapsWith (.ListComp elt [⟨tg, iter, ifs, 0⟩] scope pos) (some (.Name y py)) spos.line X.env = pure true) (hi : SI ca X W tg iter it) (ok : BlkOk X.N X.env.scope scope own)
    (hg : ∀ (s : Shared) (H : Hp) (C : Addr) (cl : List (Str × Addr)) (fp : List Addr), SGw ca (X.blk s H scope (compEnvC scope cl C X.env) fp) (own.map (·.2)) tg g) (ht : ∀ (s : Shared) (H : Hp) (C : Addr) (cl : List (Str × Addr)) (fp : List Addr), STs ca (X.blk s H scope (compEnvC scope cl C X.env) fp) ifs t)
    (he : ∀ (s : Shared) (H : Hp) (C : Addr) (cl : List (Str × Addr)) (fp : List Addr), SD ca (X.blk s H scope (compEnvC scope cl C X.env) fp) W0 elt x) (hs : ∀ x, foldedSetIterable iter X.env x = pure x) :
    SS ca X W (.Assign [.Name y py] (.ListComp elt [⟨tg, iter, ifs, 0⟩] scope pos) spos) (sSet i (ed (eComp it g t x (own.map (·.2))))) :=
  PS.imp (ps_setLc hc hN hy hyl hsw hi ok hg ht he hs) fun D σ H ⟨μ, F, τ, h, A, p⟩ => comp_rd (W := W) (wi := rdI ca W it) ⟨μ, F, τ, h, A, frz_post (set_post A p)⟩
theorem ss_newLc (hc : X.calm = true) (hN : X.N.Nodup) (hy : X.N[i]? = some y) (hyl : X.env.scope.names.lookup y = some .local)
    (hsw : swapsWith (.ListComp elt [⟨tg, iter, ifs, 0⟩] scope pos) (some (.Name y py)) spos.line X.env = pure true) (hi : SI ca X W tg iter it) (ok : BlkOk X.N X.env.scope scope own)
    (hg : ∀ (s : Shared) (H : Hp) (C : Addr) (cl : List (Str × Addr)) (fp : List Addr), SGw ca (X.blk s H scope (compEnvC scope cl C X.env) fp) (own.map (·.2)) tg g) (ht : ∀ (s : Shared) (H : Hp) (C : Addr) (cl : List (Str × Addr)) (fp : List Addr), STs ca (X.blk s H scope (compEnvC scope cl C X.env) fp) ifs t)
    (he : ∀ (s : Shared) (H : Hp) (C : Addr) (cl : List (Str × Addr)) (fp : List Addr), SD ca (X.blk s H scope (compEnvC scope cl C X.env) fp) W0 elt x) (hs : ∀ x, foldedSetIterable iter X.env x = pure x) :
    SS ca X W (.Assign [.Name y py] (.ListComp elt [⟨tg, iter, ifs, 0⟩] scope pos) spos) (sSet i (eAl (eComp it g t x (own.map (·.2))))) :=
  PS.imp (ps_setLc hc hN hy hyl hsw hi ok hg ht he hs) fun D σ H ⟨μ, F, τ, h, A, p⟩ => comp_rd (W := W) (wi := rdI ca W it) ⟨μ, F, τ, h, A, al_post A.rel A.bl (set_post A p)⟩
end
/-! ### dicts -/
def eNewK : EX := fun _ h => .ok (.n (.dK [])) h
def eNewT : EX := fun _ h => .ok (.n (.dT [])) h
theorem se_newK : SE ca X W (.Dict [] [] pos) eNewK := PE.imp pe_dnewK fun σ H Q ⟨μ, F, τ, h, A, p⟩ l hl => by
  obtain ⟨e, R1, w⟩ := neNew (b := τ.b) A.rel hl (.dK []) (o := .dK []) fun H' q => ⟨[], q, rfl, .nil⟩
  exact p _ _ _ e R1 _ w
theorem se_newT : SE ca X W (.Dict [] [] pos) eNewT := PE.imp pe_dnewT fun σ H Q ⟨μ, F, τ, h, A, p⟩ l hl => by
  obtain ⟨e, R1, w⟩ := neNew (b := τ.b) A.rel hl (.dT []) (o := .dT []) fun H' q => ⟨[], q, rfl, .nil⟩
  exact p _ _ _ e R1 _ w
/-- {k: v, ..} with keys that are ints or texts -/
abbrev EPs := Fm → Own → Res (List (Key × D))
def pNil : EPs := fun _ h => .ok [] h
def pCons (k v : ED) (r : EPs) : EPs := fun τ h => (k τ h).bind fun kd h1 => (v τ h1).bind fun d h2 => (r τ h2).bind fun ps h3 => match asK kd with
  | some kk => .ok ((kk, d) :: ps) h3
  | none => .stuck
def mergeD (kds more : List (Key × D)) : List (Key × D) := more.foldl (fun acc p => putD acc p.1 p.2) kds
def eDisp (ps : EPs) : EX := fun τ h => (ps τ h).bind fun kds h1 => if kds.length ≤ 15 then .ok (.n (.dK (mergeD [] kds))) h1 else .stuck
/-- the pairs of a display are evaluated -/
def PPd (ca : Cn) (W : WF) (trs : List (TE × TE)) (ps : EPs) : Prop := ∀ (b : Nat) (μ : List Addr) (F : Hp) (τ : Fm) (h : Own) (σ : L2.St) (H : Hp) (Q : List (V × V) → Hp → Prop), At ca μ F τ h σ H →
  PostG ca τ.b μ F H h (ps τ h) (wx ca W σ) (fun kds μ1 F1 H1 _ => ∀ kvs : List (Key × V), kvs.map (·.1) = kds.map (·.1) → VRs ca μ1 F1 (kvs.map (·.2)) (kds.map (·.2)) → Q (kvs.map fun kv => (kV kv.1, kv.2)) H1) → tPairs trs σ H Q
theorem pp_nil : PPd ca W [] pNil := fun b μ F τ h σ H Q A p => p.ok A.rel [] rfl .nil
theorem pp_cons {k v : ED} {r : EPs} {trs : List (TE × TE)} (hr : PPd ca W trs r) : PPd ca W ((rdD ca W k, rdD ca W v) :: trs) (pCons k v r) := fun b μ F τ h σ H Q A p => by
  refine ⟨μ, F, τ, h, A, p.bind.imp fun kd μ1 F1 H1 h1 E1 R1 q kv Vk => ?_⟩
  have A1 := A.ext E1 R1
  refine ⟨μ1, F1, τ, h1, A1, q.bind.imp fun d μ2 F2 H2 h2 E2 R2 q2 dv Vd => ?_⟩
  have A2 := A1.ext E2 R2
  refine hr b μ2 F2 τ h2 σ H2 _ A2 (q2.bind.imp fun ps μ3 F3 H3 h3 E3 R3 q3 kvs e r => ?_)
  cases ek : asK kd with
  | none => rw [ek] at q3; exact q3.elim
  | some kk =>
    rw [ek] at q3
    have := asK_ok Vk ek
    subst this
    exact q3.ok R3 ((kk, dv) :: kvs) (by simp [e]) (.cons (E3.vr Vd) r)
theorem merge_ok {μ : List Addr} {F : Hp} : ∀ {more : List (Key × V)} {moreD : List (Key × D)} {kvs : List (Key × V)} {kds : List (Key × D)}, more.map (·.1) = moreD.map (·.1) → VRs ca μ F (more.map (·.2)) (moreD.map (·.2)) → kvs.map (·.1) = kds.map (·.1) → VRs ca μ F (kvs.map (·.2)) (kds.map (·.2)) →
    (mergeK kvs more).map (·.1) = (mergeD kds moreD).map (·.1) ∧ VRs ca μ F ((mergeK kvs more).map (·.2)) ((mergeD kds moreD).map (·.2))
  | [], [], _, _, _, _, e, r => ⟨e, r⟩
  | [], _ :: _, _, _, h, _, _, _ => by cases h
  | _ :: _, [], _, _, h, _, _, _ => by cases h
  | (k, v) :: more, (k', d) :: moreD, kvs, kds, h, hr, e, r => by
    simp only [List.map_cons, List.cons.injEq] at h
    obtain ⟨h1, h2⟩ := h
    subst h1
    cases hr with
    | cons r1 r2 =>
      obtain ⟨w1, w2⟩ := vr_put k r1 e r
      exact merge_ok (more := more) (moreD := moreD) h2 r2 w1 w2
theorem se_disp {trs : List (TE × TE)} {keys : List (Option Expr)} {values : List Expr} {ps : EPs} (h : PE X (.Dict keys values pos) (tDisp trs)) (hp : PPd ca W trs ps) : SE ca X W (.Dict keys values pos) (eDisp ps) := PE.imp h fun σ H Q ⟨μ, F, τ, h, A, p⟩ l hl => by
  have hF : F l = none := by
    cases q : F l with
    | none => rfl
    | some w => have := A.rel.fz _ _ q; rw [hl] at this; cases this
  have hm : l ∉ μ := fun z => A.rel.dom l z hl
  have A1 : At ca μ F τ h σ (upd H l (.dK [])) := ⟨A.rel.upd hl, A.sl, A.bl⟩
  refine hp 0 μ F τ h σ _ _ A1 ?_
  have E0 : Ext τ.b μ F H h μ F (upd H l (.dK [])) h := Ext.refl.upd hl
  have p' : PostG ca τ.b μ F (upd H l (.dK [])) h (eDisp ps τ h) (wx ca W σ) fun r μ1 F1 H1 _ => ∀ v, RR ca μ1 F1 H H1 v r → Q v H1 := by
    cases hr : eDisp ps τ h with
    | stuck => rw [hr] at p; exact p.elim
    | exc c h1 => rw [hr] at p; exact fun μ1 F1 H1 E1 R1 => p μ1 F1 H1 (E0.trans E1) R1
    | ok r h1 => rw [hr] at p; exact fun μ1 F1 H1 E1 R1 => p μ1 F1 H1 (E0.trans E1) R1
  -- the display's own dict stays as it is while its pairs are evaluated
  cases hps : ps τ h with
  | stuck => unfold eDisp at p'; rw [hps] at p'; exact p'.elim
  | exc c h1 => unfold eDisp at p'; rw [hps] at p'; exact p'
  | ok kds h1 =>
    intro μ1 F1 H1 E1 R1 kvs ek ev
    unfold eDisp at p
    rw [hps] at p
    have p2 : PostG ca τ.b μ F H h (if kds.length ≤ 15 then .ok (.n (.dK (mergeD [] kds))) h1 else .stuck) (wx ca W σ) fun r μ1 F1 H1 _ => ∀ v, RR ca μ1 F1 H H1 v r → Q v H1 := p
    have hlD : H1 l = some (.dK []) := E1.frame l _ upd_same hm
    have hm1 : l ∉ μ1 := fun z => by
      obtain ⟨m, e1, e2⟩ := E1.pre
      rw [e1] at z
      rcases List.mem_append.mp z with z | z
      · exact hm z
      · have := e2 l z; rw [upd_same] at this; cases this
    have hF1 : F1 l = none := by
      cases q : F1 l with
      | none => rfl
      | some w =>
        rcases E1.newF l (by rw [q]; simp) with z | z | z | ⟨_, z⟩ | ⟨_, z⟩
        · exact absurd hF z
        · exact absurd z hm
        · rw [upd_same] at z; cases z
        · rw [upd_same] at z; cases z
        · rw [upd_same] at z; unfold LamX.CodeO at z; cases z
    by_cases hC : kds.length ≤ 15
    · rw [if_pos hC] at p2
      have hlen : kvs.length = kds.length := by have := congrArg List.length ek; simpa using this
      obtain ⟨w1, w2⟩ := merge_ok (kvs := []) (kds := []) ek ev rfl .nil
      refine ⟨hlD, kvs, rfl, by omega, ?_⟩
      exact p2 μ1 F1 _ ((E0.trans E1).updFree hl) (R1.updFree hm1 hF1) _ ⟨l, rfl, hl, by rw [upd_same]; simp, hm1, hF1, _, upd_same, w1, w2⟩
    · rw [if_neg hC] at p2; exact p2.elim
/-! ### an own dict walked: read, not written -/
/-- the dict at the name in slot i locked -/
def lockO : O → Option O
  | .dK k => some (.lkK k)
  | .dT k => some (.lkT k)
  | _ => none
def lkAt (τ : Fm) (i : Nat) (h : Own) : Option (Nat × O × Own) := match τ.s[i]? with
  | some (some (.ref n)) => match h[n]? with
    | some o => match lockO o with
      | some o' => if τ.b ≤ n ∨ nrfO o = true then some (n, o, h.set n o') else none
      | none => none
    | none => none
  | _ => none
theorem lock_nrf {o o' : O} (e : lockO o = some o') : nrfO o' = nrfO o := by cases o <;> cases e <;> rfl
theorem lock_stb {o o' : O} (e : lockO o = some o') : stb o = false ∧ stb o' = true ∧ o ≠ .dead ∧ o' ≠ .dead := by cases o <;> cases e <;> (refine ⟨rfl, rfl, ?_, ?_⟩ <;> intro z <;> cases z)
theorem lock_or {μ : List Addr} {F H : Hp} {a : Addr} {o o' : O} (e : lockO o = some o') (h : OR ca μ F H a o) : ∃ u, H a = some u ∧ Mut (some u) ∧ ∀ od H', H' a = some (.frz od u) → OR ca μ F H' a o' := by
  cases o with
  | dK k => cases e; obtain ⟨kvs, q1, q2, q3⟩ := h; exact ⟨_, q1, True.intro, fun od H' q => ⟨od, kvs, q, q2, q3⟩⟩
  | dT k => cases e; obtain ⟨kvs, q1, q2, q3⟩ := h; exact ⟨_, q1, True.intro, fun od H' q => ⟨od, kvs, q, q2, q3⟩⟩
  | _ => cases e
theorem unlock_or {μ : List Addr} {F H : Hp} {a : Addr} {o o' : O} {u : HO} {od : Obj} (e : lockO o = some o') (h : OR ca μ F H a o') (hu : H a = some (.frz od u)) : ∀ H', H' a = some u → OR ca μ F H' a o := by
  cases o with
  | dK k => cases e; obtain ⟨od', kvs, q1, q2, q3⟩ := h; rw [hu] at q1; cases q1; exact fun H' q => ⟨kvs, q, q2, q3⟩
  | dT k => cases e; obtain ⟨od', kvs, q1, q2, q3⟩ := h; rw [hu] at q1; cases q1; exact fun H' q => ⟨kvs, q, q2, q3⟩
  | _ => cases e
/-- what is known of a lock -/
theorem lkAt_ok {μ : List Addr} {F H : Hp} {h hl : Own} {τ : Fm} {σ : L2.St} {i n : Nat} {o : O} (A : At ca μ F τ h σ H) (e : lkAt τ i h = some (n, o, hl)) :
    ∃ a o' u, μ[n]? = some a ∧ h[n]? = some o ∧ lockO o = some o' ∧ hl = h.set n o' ∧ (τ.b ≤ n ∨ nrfO o = true) ∧ H a = some u ∧ Mut (some u) ∧ ∀ od, At ca μ F τ hl σ (upd H a (.frz od u)) ∧ Ext τ.b μ F H h μ F (upd H a (.frz od u)) hl := by
  unfold lkAt at e
  cases es : τ.s[i]? with
  | none => rw [es] at e; cases e
  | some od =>
    rw [es] at e
    cases od with
    | none => cases e
    | some d =>
      cases d with
      | ref m =>
        dsimp only at e
        cases e0 : h[m]? with
        | none => rw [e0] at e; cases e
        | some o0 =>
          rw [e0] at e
          dsimp only at e
          cases el : lockO o0 with
          | none => rw [el] at e; cases e
          | some o' =>
            rw [el] at e
            dsimp only at e
            by_cases hb : τ.b ≤ m ∨ nrfO o0 = true
            · rw [if_pos hb] at e
              cases e
              obtain ⟨v, ev, V⟩ := A.sl.2 i _ es
              cases V with
              | ref en =>
                rename_i a
                obtain ⟨s1, s2, s3, s4⟩ := lock_stb el
                obtain ⟨u, hu, mu, ho⟩ := lock_or el (A.rel.ob n a o en e0)
                refine ⟨a, o', u, en, e0, el, rfl, hb, hu, mu, fun od => ?_⟩
                have R1 : RelH ca μ F (h.set n o') (upd H a (.frz od u)) := A.rel.put en e0 s3 fun H' q => ho od H' q
                have E1 : Ext τ.b μ F H h μ F (upd H a (.frz od u)) (h.set n o') := Ext.refl.put A.rel en e0 s1 (hb.imp id fun z => .inl (by rw [lock_nrf el]; exact z))
                exact ⟨A.ext E1 R1, E1⟩
            · rw [if_neg hb] at e; cases e
      | _ => cases e
/-- unlocked again -/
theorem unlk_ok {b : Nat} {μ μ1 : List Addr} {F F1 H H1 : Hp} {h h1 : Own} {a : Addr} {n : Nat} {o o' : O} {u : HO} {od : Obj} (R : RelH ca μ F h H) (en : μ[n]? = some a) (e0 : h[n]? = some o) (el : lockO o = some o') (hb : b ≤ n ∨ nrfO o = true)
    (E0 : Ext b μ F H h μ F (upd H a (.frz od u)) (h.set n o')) (E1 : Ext b μ F (upd H a (.frz od u)) (h.set n o') μ1 F1 H1 h1) (R1 : RelH ca μ1 F1 h1 H1) :
    H1 a = some (.frz od u) ∧ h1[n]? = some o' ∧ RelH ca μ1 F1 (h1.set n o) (upd H1 a u) ∧ Ext b μ F H h μ1 F1 (upd H1 a u) (h1.set n o) := by
  obtain ⟨s1, s2, s3, s4⟩ := lock_stb el
  have hn : n < h.length := (List.getElem?_eq_some_iff.mp e0).1
  obtain ⟨w1, w2⟩ := E1.st n a o' en (by rw [List.getElem?_set_self hn]) s2
  have hu := w2 _ upd_same
  have en1 := E1.ix n a en
  refine ⟨hu, w1, R1.put en1 w1 s4 (unlock_or el (R1.ob n a o' en1 w1) hu), (E0.trans E1).put' R1 en1 (fun o2 q1 q2 => ?_) hb⟩
  rw [e0] at q1; cases q1
  rw [s1] at q2; cases q2
/-- a statement while the dict in slot i is locked -/
def sLk (i : Nat) (x : ST) : ST := fun τ h => match lkAt τ i h with
  | some (n, o, hl) => match x τ hl with
    | .next s h1 => .next s (h1.set n o)
    | .brk s h1 => .brk s (h1.set n o)
    | .cnt s h1 => .cnt s (h1.set n o)
    | .ret r h1 => .ret r (h1.set n o)
    | .exc _ _ _ => .stuck
    | .stuck => .stuck
  | none => .stuck
theorem ss_lk {st : Stmt} {x : ST} (i : Nat) (hx : SS ca X W0 st x) (hn : PS X st (tLock (rdS ca W0 x))) : SS ca X W st (sLk i x) := PS.imp hn fun D σ H ⟨μ, F, τ, h, A, p⟩ => by
  unfold sLk at p
  cases hl : lkAt τ i h with
  | none => rw [hl] at p; exact p.elim
  | some q =>
    obtain ⟨n, o, hl'⟩ := q
    rw [hl] at p
    dsimp only at p
    obtain ⟨a, o', u, en, e0, el, rfl, hb, hu, mu, hod⟩ := lkAt_ok A hl
    refine ⟨a, u, hu, mu, fun od => ?_⟩
    obtain ⟨A1, E0⟩ := hod od
    refine ⟨μ, F, τ, _, A1, ?_⟩
    cases hx : x τ (h.set n o') with
    | stuck => rw [hx] at p; exact p.elim
    | exc c s h1 => rw [hx] at p; exact p.elim
    | next s h1 =>
      rw [hx] at p
      intro μ1 F1 H1 σ1 E1 R1 S1
      obtain ⟨w1, w2, w3, w4⟩ := unlk_ok A.rel en e0 el hb E0 E1 R1
      exact ⟨w1, p μ1 F1 _ σ1 w4 w3 S1⟩
    | brk s h1 =>
      rw [hx] at p
      intro μ1 F1 H1 σ1 E1 R1 S1
      obtain ⟨w1, w2, w3, w4⟩ := unlk_ok A.rel en e0 el hb E0 E1 R1
      exact ⟨w1, p μ1 F1 _ σ1 w4 w3 S1⟩
    | cnt s h1 =>
      rw [hx] at p
      intro μ1 F1 H1 σ1 E1 R1 S1
      obtain ⟨w1, w2, w3, w4⟩ := unlk_ok A.rel en e0 el hb E0 E1 R1
      exact ⟨w1, p μ1 F1 _ σ1 w4 w3 S1⟩
    | ret r h1 =>
      rw [hx] at p
      intro μ1 F1 H1 v E1 R1 V1
      obtain ⟨w1, w2, w3, w4⟩ := unlk_ok A.rel en e0 el hb E0 E1 R1
      refine ⟨w1, p μ1 F1 _ v w4 w3 ?_⟩
      cases r with
      | v d => exact V1
      | n od2 =>
        obtain ⟨a2, k1, k2, k3, k4, k5, k6⟩ := V1
        have hne : a2 ≠ a := by rintro rfl; exact k4 (E1.pre.elim fun m z => by rw [z.1]; exact List.mem_append_left _ (List.mem_of_getElem? en))
        rw [upd_ne hne] at k2
        exact ⟨a2, k1, k2, by rw [upd_ne hne]; exact k3, k4, k5, k6.mono (fun _ _ z => z) (Same.refl _) fun w z => by rw [upd_ne hne]; exact z⟩
/-- an expression while the dict in slot i is locked -/
def eLk (i : Nat) (x : EX) : EX := fun τ h => match lkAt τ i h with
  | some (n, o, hl) => match x τ hl with
    | .ok r h1 => .ok r (h1.set n o)
    | _ => .stuck
  | none => .stuck
theorem se_lk {x : EX} (i : Nat) (hn : PE X e (tLockE (rdE ca W x))) : SE ca X W e (eLk i x) := PE.imp hn fun σ H Q ⟨μ, F, τ, h, A, p⟩ => by
  unfold eLk at p
  cases hl : lkAt τ i h with
  | none => rw [hl] at p; exact p.elim
  | some q =>
    obtain ⟨n, o, hl'⟩ := q
    rw [hl] at p
    dsimp only at p
    obtain ⟨a, o', u, en, e0, el, rfl, hb, hu, mu, hod⟩ := lkAt_ok A hl
    refine ⟨a, u, hu, mu, fun od => ?_⟩
    obtain ⟨A1, E0⟩ := hod od
    refine ⟨μ, F, τ, _, A1, ?_⟩
    cases hx : x τ (h.set n o') with
    | stuck => rw [hx] at p; exact p.elim
    | exc c h1 => rw [hx] at p; exact p.elim
    | ok r h1 =>
      rw [hx] at p
      intro μ1 F1 H1 E1 R1 v V1
      obtain ⟨w1, w2, w3, w4⟩ := unlk_ok A.rel en e0 el hb E0 E1 R1
      refine ⟨w1, p μ1 F1 _ w4 w3 v ?_⟩
      cases r with
      | v d => exact V1
      | n od2 =>
        obtain ⟨a2, k1, k2, k3, k4, k5, k6⟩ := V1
        have hne : a2 ≠ a := by rintro rfl; exact k4 (E1.pre.elim fun m z => by rw [z.1]; exact List.mem_append_left _ (List.mem_of_getElem? en))
        rw [upd_ne hne] at k2
        exact ⟨a2, k1, k2, by rw [upd_ne hne]; exact k3, k4, k5, k6.mono (fun _ _ z => z) (Same.refl _) fun w z => by rw [upd_ne hne]; exact z⟩
def kD : Key → D
  | .inl i => .int i
  | .inr s => .str s
theorem kD_ok {μ : List Addr} {F : Hp} (k : Key) : VR ca μ F (kV k) (kD k) := by cases k <;> constructor
/-- the keys of a locked dict -/
def iKey (x : ED) : EI := fun τ h => (x τ h).bind fun d h1 => match d with
  | .ref n => match h1[n]? with
    | some (.lkK kds) => .ok (kds.map fun p => kD p.1, some (n, .lkK kds)) h1
    | some (.lkT kds) => .ok (kds.map fun p => .tup (p.1.map kD), some (n, .lkT kds)) h1
    | _ => .stuck
  | _ => .stuck
theorem kDs_ok {μ : List Addr} {F : Hp} : ∀ ks : List Key, VRs ca μ F (ks.map kV) (ks.map kD)
  | [] => .nil
  | k :: ks => .cons (kD_ok k) (kDs_ok ks)
theorem si_key {tg : Expr} {x : ED} (hx : SD ca X W e x) : SI ca X W tg e (iKey x) := PI.imp (pi_keys hx) fun σ H R ⟨μ, F, τ, h, A, p⟩ => ⟨μ, F, τ, h, A, p.bind.imp fun d μ1 F1 H1 h1 E1 R1 q v Vr => by
  cases Vr with
  | @ref a n en =>
    dsimp only at q
    cases e0 : h1[n]? with
    | none => rw [e0] at q; exact q.elim
    | some o =>
      rw [e0] at q
      cases o with
      | lkK kds =>
        obtain ⟨od, kvs, q1, q2, q3⟩ := R1.ob n a _ en e0
        refine ⟨a, od, rfl, .inl ⟨kvs, q1, q.ok R1 (fun m o z => by cases z; exact e0) _ ?_⟩⟩
        intro b μ2 F2 h2 H2 E2 R2 hk i
        have hH := (E2.st n a _ en e0 rfl).2 _ q1
        have hl : kds.length = kvs.length := by have := congrArg List.length q2; simpa using this.symm
        refine ⟨fun hi => ⟨⟨hH, by simpa [hl] using hi⟩, fun y H3 yy => ?_⟩, fun hi => ⟨hH, by simpa [hl] using hi⟩⟩
        obtain ⟨rfl, k, v, ek, rfl⟩ := yy
        refine ⟨F2, kD k, ?_, fun b => Ext.refl, R2, kD_ok k⟩
        have : (kds.map (·.1))[i]? = some k := by rw [← q2, List.getElem?_map, ek]; rfl
        rw [List.getElem?_map] at this
        obtain ⟨p, e1, e2⟩ := Option.map_eq_some_iff.mp this
        rw [List.getElem?_map, e1]
        show some (kD p.1) = _
        rw [e2]
      | lkT kds =>
        obtain ⟨od, kvs, q1, q2, q3⟩ := R1.ob n a _ en e0
        refine ⟨a, od, rfl, .inr ⟨kvs, q1, q.ok R1 (fun m o z => by cases z; exact e0) _ ?_⟩⟩
        intro b μ2 F2 h2 H2 E2 R2 hk i
        have hH := (E2.st n a _ en e0 rfl).2 _ q1
        have hl : kds.length = kvs.length := by have := congrArg List.length q2; simpa using this.symm
        refine ⟨fun hi => ⟨⟨hH, by simpa [hl] using hi⟩, fun y H3 yy => ?_⟩, fun hi => ⟨hH, by simpa [hl] using hi⟩⟩
        obtain ⟨rfl, k, v, l, ek, rfl, hq⟩ := yy
        obtain ⟨F3, w1, w2, w3⟩ := R2.fzTup hq
        refine ⟨F3, .tup (k.map kD), ?_, w3, w2, .tup w1 (kDs_ok k)⟩
        have : (kds.map (·.1))[i]? = some k := by rw [← q2, List.getElem?_map, ek]; rfl
        rw [List.getElem?_map] at this
        obtain ⟨p, e1, e2⟩ := Option.map_eq_some_iff.mp this
        rw [List.getElem?_map, e1]
        show some (D.tup (p.1.map kD)) = _
        rw [e2]
      | _ => exact q.elim
  | _ => exact (show False from q).elim⟩
end
end Z
set_option Elab.async false
set_option linter.all false
set_option maxRecDepth 100000
set_option maxHeartbeats 1000000
/-! Z13: instances made; builtins; methods of lists. -/
namespace Z
open PySem PySem.Spec L2
section
variable {ca : Cn} {X : Cx} {W : WF} {pos : Pos} {e a b c : Expr}
/-! ### C(..) whose instance is then fixed -/
def eMk (c n : Nat) (G : BD) (xs : EA) : EX := fun τ h => (xs τ h).bind fun ds h1 => if ds.length + 1 = n then
  (match G h1.length (.ref h1.length :: ds) (h1 ++ [.ins c []]) with
  | .next _ h3 => match h3[h1.length]? with
    | some (.ins c' fs) => if nrfs fs = true then .ok (.n (.ins c' fs)) (h3.take h1.length) else .stuck
    | _ => .stuck
  | _ => .stuck) else .stuck
theorem se_mk {C f : Addr} {cn : Nat} {fd : FuncData} {ps : List Str} {k : Nat} {G : BD} {x : Str} {p : Pos} {es : List Expr} {xs : EA} (hC : ca.ad cn = C) (M : Mk X.K C f) (F : FnOk X.prog X.w X.K X.mg X.base (L2.CX X.prog X.w) k f fd ps (spB ca ps.length G)) (hr : Room (k + 1) X.A)
    (hg : Gl X x) (hm : X.mg x = some (.ref C)) (hb : Binds X.K fd ps []) (tk : Takes X W) (ha : SA ca X W (e :: es) xs) (hdb : (x == ("__debug__" : Str)) = false) (he : starEach (e :: es) X.env = (false, eval e X.env) :: starEach es X.env)
    (hpl : (backTo pos (starEach es X.env)).any (·.1) = false) : SE ca X W (.Call (.Name x p) (e :: es) [] pos) (eMk cn ps.length G xs) :=
  PE.imp (pe_make M F hr hg hm hb .nil (E := fun _ _ _ => False) (fun pins σ H s e s' I c => passes_call tk (fun _ _ _ _ z => z.elim) pins σ H s e s' I c) ha hdb he hpl) fun σ H Q ⟨μ, F, τ, h, A, p⟩ => ⟨μ, F, τ, h, A, p.bind.imp fun ds μ1 F1 H1 h1 E1 R1 q vs Vs => by
    intro x dx hx hdx hne
    have A1 := A.ext E1 R1
    by_cases hn : ds.length + 1 = ps.length
    · rw [if_pos hn] at q
      have Ea : Ext h1.length μ1 F1 H1 h1 μ1 F1 (upd (upd H1 dx (.own x)) x (.ins C dx [])) h1 := (Ext.refl.upd hdx).upd (by rw [upd_ne (Ne.symm hne)]; exact hx)
      have Ra : RelH ca μ1 F1 h1 (upd (upd H1 dx (.own x)) x (.ins C dx [])) := (R1.upd hdx).upd (by rw [upd_ne (Ne.symm hne)]; exact hx)
      have hxm : x ∉ μ1 := fun z => R1.dom x z hx
      have hxF : F1 x = none := by
        cases q : F1 x with
        | none => rfl
        | some w => have := R1.fz _ _ q; rw [hx] at this; cases this
      have E2 : Ext h1.length μ1 F1 H1 h1 (μ1 ++ [x]) F1 (upd (upd H1 dx (.own x)) x (.ins C dx [])) (h1 ++ [.ins cn []]) := Ea.alloc hx (Nat.le_refl _)
      have R2 : RelH ca (μ1 ++ [x]) F1 (h1 ++ [.ins cn []]) (upd (upd H1 dx (.own x)) x (.ins C dx [])) := Ra.alloc (by rw [upd_same]; simp) hxm hxF ⟨dx, [], by rw [upd_same, hC], rfl, .nil⟩
      have ix : (μ1 ++ [x])[h1.length]? = some x := by rw [← R1.len]; simp
      refine ⟨μ1 ++ [x], F1, h1 ++ [.ins cn []], .ref h1.length :: ds, h1.length, R2, .cons (.ref ix) (by rw [List.append_nil]; exact E2.vrs Vs), by rw [List.length_cons]; exact hn, by simp, ?_⟩
      cases hG : G h1.length (.ref h1.length :: ds) (h1 ++ [.ins cn []]) with
      | next s h3 =>
        rw [hG] at q
        intro μ3 F3 H3 E3 R3
        refine ⟨rfl, ?_⟩
        have E4 := E2.trans E3
        obtain ⟨Rc, Ec⟩ := cut_ok R1 E4 R3
        have ix3 := E3.ix _ _ ix
        dsimp only at q
        split at q
        · rename_i c' fs e3
          by_cases hf : nrfs fs = true
          · rw [if_pos hf] at q
            refine q μ1 F3 H3 (Ec τ.b A1.bl) Rc (.ref x) ⟨x, rfl, E1.fresh hx, R3.dom x (List.mem_of_getElem? ix3), hxm, R3.sep _ x _ ix3 e3 (fun z => nomatch z), (R3.ob _ x _ ix3 e3).nrf hf⟩
          · rw [if_neg hf] at q; exact q.elim
        · exact q.elim
      | _ => rw [hG] at q; exact q.elim
    · rw [if_neg hn] at q; exact q.elim⟩
/-! ### builtins -/
def fLen : FA := fun xs h => match xs with
  | [d] => match asQ h d with
    | some ds => .ok (.v (.int ds.length)) h
    | none => match d with
      | .str z => if z.length ≤ sizeLine then .ok (.v (.int z.length)) h else .stuck
      | d => match asD h d with
        | some (.k kds) => .ok (.v (.int kds.length)) h
        | _ => .stuck
  | _ => .stuck
def rLen (K : PySem.W.Frag) : List V → Hp → VK → Prop := fun xs H Q => (∃ p ys, xs = [.ref p] ∧ (SqL K H p ys ∨ SqT K H p ys) ∧ Q (.int ys.length) H) ∨ (∃ z, xs = [.str z] ∧ z.length ≤ sizeLine ∧ Q (.int z.length) H) ∨ ∃ a kvs, xs = [.ref a] ∧ Rd H a (.dK kvs) ∧ Q (.int kvs.length) H
theorem cr_len : CallR X (.builtin "len") (rLen X.K) := by
  intro pins s σ H xs us Q I r h
  rcases h with h | h | ⟨a, kvs, rfl, q, w⟩
  · exact call_len_seq pins s σ H xs us Q I r h
  · exact call_len_str pins s σ H xs us Q I r h
  · obtain ⟨u, rfl, ru⟩ := vals1 r
    obtain rfl : u = Value.ref a := ru
    exact d_len I q fun t s' I' => ⟨.int kvs.length, H, I', ⟨t, rfl⟩, w⟩
theorem VRs.one {μ : List Addr} {F : Hp} {vs : List V} {d : D} (r : VRs ca μ F vs [d]) : ∃ v, vs = [v] ∧ VR ca μ F v d := by
  cases r with
  | cons h t => cases t; exact ⟨_, rfl, h⟩
theorem lk_len {K : PySem.W.Frag} : LkA ca fLen (rLen K) := by
  intro b μ F H h Wx vs ds Q R Vs _ p
  unfold fLen at p
  split at p
  · rename_i d
    obtain ⟨v, rfl, Vr⟩ := Vs.one
    cases e1 : asQ h d with
    | some ds =>
      simp only [e1] at p
      obtain ⟨a, vs, rfl, q, r⟩ := asQ_ok R Vr e1
      refine .inl ⟨a, vs, rfl, SqQ q, ?_⟩
      rw [r.length]
      exact p.ok R _ (.int _)
    | none =>
      simp only [e1] at p
      have dict : ∀ {kds}, asD h d = some (.k kds) → PostG ca b μ F H h (.ok (.v (.int kds.length)) h) Wx (fun r μ1 F1 H1 _ => ∀ v, RR ca μ1 F1 H H1 v r → Q v H1) → rLen K [v] H Q := fun {kds} e2 p => by
        obtain ⟨a, rfl, kvs, q1, q2, q3⟩ := asD_ok R Vr e2
        refine .inr (.inr ⟨a, kvs, rfl, q1, ?_⟩)
        have : kvs.length = kds.length := by have := congrArg List.length q2; simpa using this
        rw [this]
        exact p.ok R _ (.int _)
      cases d with
      | str z =>
        cases Vr
        dsimp only at p
        by_cases hC : z.length ≤ sizeLine
        · rw [if_pos hC] at p
          exact .inr (.inl ⟨z, rfl, hC, p.ok R _ (.int _)⟩)
        · rw [if_neg hC] at p; exact p.elim
      | _ =>
        dsimp only at p
        split at p
        · rename_i kds e2
          exact dict e2 p
        · exact p.elim
  · exact p.elim
/-- list(x), tuple(x) -/
def fList : FA := fun xs h => match xs with
  | [d] => match asQ h d with
    | some ds => .ok (.n (.lst ds)) h
    | none => .stuck
  | _ => .stuck
theorem lk_list {K : PySem.W.Frag} : LkA ca fList (fun xs H Q => ∃ p ys, xs = [.ref p] ∧ (SqL K H p ys ∨ SqT K H p ys) ∧ ∀ l, H l = none → Q (.ref l) (upd H l (.lst ys))) := by
  intro b μ F H h Wx vs ds Q R Vs _ p
  unfold fList at p
  split at p
  · rename_i d
    obtain ⟨v, rfl, Vr⟩ := Vs.one
    cases e1 : asQ h d with
    | some ds =>
      simp only [e1] at p
      obtain ⟨a, vs, rfl, q, r⟩ := asQ_ok R Vr e1
      exact ⟨a, vs, rfl, SqQ q, fun l hl => new_lst R r p hl⟩
    | none => simp only [e1] at p; exact p.elim
  · exact p.elim
def fTuple : FA := fun xs h => match xs with
  | [d] => match asQ h d with
    | some ds => .ok (.v (.tup ds)) h
    | none => .stuck
  | _ => .stuck
theorem lk_tuple {K : PySem.W.Frag} : LkA ca fTuple (fun xs H Q => ∃ p ys, xs = [.ref p] ∧ ((SqL K H p ys ∧ ∀ l, H l = none → Q (.ref l) (upd H l (.tup ys))) ∨ (SqT K H p ys ∧ Q (.ref p) H))) := by
  intro b μ F H h Wx vs ds Q R Vs _ p
  unfold fTuple at p
  split at p
  · rename_i d
    obtain ⟨v, rfl, Vr⟩ := Vs.one
    have lst : ∀ {ds}, asL h d = some ds → PostG ca b μ F H h (.ok (.v (.tup ds)) h) Wx (fun r μ1 F1 H1 _ => ∀ v, RR ca μ1 F1 H H1 v r → Q v H1) → ∃ p ys, [v] = [V.ref p] ∧ ((SqL K H p ys ∧ ∀ l, H l = none → Q (.ref l) (upd H l (.tup ys))) ∨ (SqT K H p ys ∧ Q (.ref p) H)) := fun {ds} e2 p => by
      obtain ⟨a, vs, rfl, q, r⟩ := asL_ok R Vr e2
      exact ⟨a, vs, rfl, .inl ⟨SqL.of q, fun l hl => new_tup R r p hl⟩⟩
    cases e1 : asQ h d with
    | some ds =>
      simp only [e1] at p
      cases d with
      | tup es =>
        cases e1
        cases Vr with
        | tup q r => exact ⟨_, _, rfl, .inr ⟨SqT.of (R.fz _ _ q), p.ok R _ (show VR ca _ _ _ _ from .tup q r)⟩⟩
      | _ => exact lst e1 p
    | none => simp only [e1] at p; exact p.elim
  · exact p.elim
def fInt : FA := fun xs h => match xs with
  | [.int i] => .ok (.v (.int i)) h
  | [.bl k] => .ok (.v (.int (if k then 1 else 0))) h
  | _ => .stuck
theorem lk_int : LkA ca fInt (fun xs H Q => (∃ i, xs = [.int i] ∧ Q (.int i) H) ∨ ∃ k, xs = [.bl k] ∧ Q (.int (if k then 1 else 0)) H) := by
  intro b μ F H h Wx vs ds Q R Vs _ p
  unfold fInt at p
  split at p
  · obtain ⟨v, rfl, Vr⟩ := Vs.one
    cases Vr
    exact .inl ⟨_, rfl, p.ok R _ (.int _)⟩
  · obtain ⟨v, rfl, Vr⟩ := Vs.one
    cases Vr
    exact .inr ⟨_, rfl, p.ok R _ (.int _)⟩
  · exact p.elim
/-- a list of ints, of bools -/
def asI : List D → Option (List Int)
  | [] => some []
  | .int i :: ds => (asI ds).map (i :: ·)
  | _ :: _ => none
def asB : List D → Option (List Bool)
  | [] => some []
  | .bl i :: ds => (asB ds).map (i :: ·)
  | _ :: _ => none
theorem asI_eq : ∀ {ds : List D} {ns : List Int}, asI ds = some ns → ds = ns.map D.int
  | [], ns, e => by cases e; rfl
  | .int i :: ds, ns, e => by
    rw [asI] at e
    obtain ⟨ns', e1, rfl⟩ := Option.map_eq_some_iff.mp e
    rw [asI_eq e1]; rfl
  | .non :: _, _, e => by cases e
  | .bl _ :: _, _, e => by cases e
  | .str _ :: _, _, e => by cases e
  | .tup _ :: _, _, e => by cases e
  | .lst _ :: _, _, e => by cases e
  | .dK _ :: _, _, e => by cases e
  | .dT _ :: _, _, e => by cases e
  | .obj _ _ :: _, _, e => by cases e
  | .ref _ :: _, _, e => by cases e
theorem asB_eq : ∀ {ds : List D} {ns : List Bool}, asB ds = some ns → ds = ns.map D.bl
  | [], ns, e => by cases e; rfl
  | .bl i :: ds, ns, e => by
    rw [asB] at e
    obtain ⟨ns', e1, rfl⟩ := Option.map_eq_some_iff.mp e
    rw [asB_eq e1]; rfl
  | .non :: _, _, e => by cases e
  | .int _ :: _, _, e => by cases e
  | .str _ :: _, _, e => by cases e
  | .tup _ :: _, _, e => by cases e
  | .lst _ :: _, _, e => by cases e
  | .dK _ :: _, _, e => by cases e
  | .dT _ :: _, _, e => by cases e
  | .obj _ _ :: _, _, e => by cases e
  | .ref _ :: _, _, e => by cases e
@[simp] theorem asI_map (ns : List Int) : asI (ns.map D.int) = some ns := by
  induction ns with
  | nil => rfl
  | cons n ns ih => rw [List.map_cons, asI, ih]; rfl
@[simp] theorem asB_map (ns : List Bool) : asB (ns.map D.bl) = some ns := by
  induction ns with
  | nil => rfl
  | cons n ns ih => rw [List.map_cons, asB, ih]; rfl
def fInts (f : List Int → Option D) : FA := fun xs h => match xs with
  | [d] => match asL h d with
    | some ds => match asI ds with
      | some ns => match f ns with
        | some r => .ok (.v r) h
        | none => .stuck
      | none => .stuck
    | none => .stuck
  | _ => .stuck
theorem fInts_ok {f : List Int → Option D} {b : Nat} {μ : List Addr} {F H : Hp} {h : Own} {Wx : Nat → Hp → Prop} {vs : List V} {ds : List D} {Q : VK} (R : RelH ca μ F h H) (Vs : VRs ca μ F vs ds)
    (p : PostG ca b μ F H h (fInts f ds h) Wx (fun r μ1 F1 H1 _ => ∀ v, RR ca μ1 F1 H H1 v r → Q v H1)) : ∃ (a : Addr) (ns : List Int) (r : D), vs = [V.ref a] ∧ H a = some (.lst (ns.map V.int)) ∧ f ns = some r ∧ ∀ v, VR ca μ F v r → Q v H := by
  unfold fInts at p
  split at p
  · rename_i d
    obtain ⟨v, rfl, Vr⟩ := Vs.one
    cases e1 : asL h d with
    | some ds =>
      simp only [e1] at p
      obtain ⟨a, vs, rfl, q, r⟩ := asL_ok R Vr e1
      cases e2 : asI ds with
      | none => simp only [e2] at p; exact p.elim
      | some ns =>
        simp only [e2] at p
        cases e3 : f ns with
        | none => simp only [e3] at p; exact p.elim
        | some r' =>
          simp only [e3] at p
          have := asI_eq e2
          subst this
          have := r.ints
          subst this
          exact ⟨a, ns, r', rfl, q, e3, p.ok R⟩
    | none => simp only [e1] at p; exact p.elim
  · exact p.elim
def lmax : List Int → Option Int
  | [] => none
  | n :: ns => match lmax ns with
    | some m => some (if n < m then m else n)
    | none => some n
def lmin : List Int → Option Int
  | [] => none
  | n :: ns => match lmin ns with
    | some m => some (if m < n then m else n)
    | none => some n
theorem lmax_ok : ∀ {ns : List Int} {m : Int}, lmax ns = some m → m ∈ ns ∧ ∀ y ∈ ns, y ≤ m
  | [], _, e => by cases e
  | n :: ns, m, e => by
    rw [lmax] at e
    cases h : lmax ns with
    | none =>
      rw [h] at e; cases e
      cases ns with
      | nil => exact ⟨by simp, fun y hy => by simp at hy; omega⟩
      | cons a l => rw [lmax] at h; split at h <;> cases h
    | some k =>
      obtain ⟨h1, h2⟩ := lmax_ok h
      rw [h] at e
      have e' : (if n < k then k else n) = m := Option.some.inj e
      by_cases hk : n < k
      · rw [if_pos hk] at e'; subst e'
        exact ⟨List.mem_cons_of_mem _ h1, fun y hy => by rcases List.mem_cons.mp hy with rfl | hy; omega; exact h2 y hy⟩
      · rw [if_neg hk] at e'; subst e'
        exact ⟨List.mem_cons_self, fun y hy => by rcases List.mem_cons.mp hy with rfl | hy; omega; have := h2 y hy; omega⟩
theorem lmin_ok : ∀ {ns : List Int} {m : Int}, lmin ns = some m → m ∈ ns ∧ ∀ y ∈ ns, m ≤ y
  | [], _, e => by cases e
  | n :: ns, m, e => by
    rw [lmin] at e
    cases h : lmin ns with
    | none =>
      rw [h] at e; cases e
      cases ns with
      | nil => exact ⟨by simp, fun y hy => by simp at hy; omega⟩
      | cons a l => rw [lmin] at h; split at h <;> cases h
    | some k =>
      obtain ⟨h1, h2⟩ := lmin_ok h
      rw [h] at e
      have e' : (if k < n then k else n) = m := Option.some.inj e
      by_cases hk : k < n
      · rw [if_pos hk] at e'; subst e'
        exact ⟨List.mem_cons_of_mem _ h1, fun y hy => by rcases List.mem_cons.mp hy with rfl | hy; omega; exact h2 y hy⟩
      · rw [if_neg hk] at e'; subst e'
        exact ⟨List.mem_cons_self, fun y hy => by rcases List.mem_cons.mp hy with rfl | hy; omega; have := h2 y hy; omega⟩
def fSum : FA := fInts fun ns => some (.int ns.sum)
def fMax : FA := fInts fun ns => (lmax ns).map .int
def fMin : FA := fInts fun ns => (lmin ns).map .int
theorem lk_sum {K : PySem.W.Frag} : LkA ca fSum (rSum K) := fun b μ F H h Wx vs ds Q R Vs _ p => by
  obtain ⟨a, ns, r, rfl, q, e, k⟩ := fInts_ok R Vs p
  cases e
  exact ⟨a, ns, rfl, SqL.of q, k _ (.int _)⟩
theorem lk_max {K : PySem.W.Frag} : LkA ca fMax (rMax K) := fun b μ F H h Wx vs ds Q R Vs _ p => by
  obtain ⟨a, ns, r, rfl, q, e, k⟩ := fInts_ok R Vs p
  obtain ⟨m, e1, rfl⟩ := Option.map_eq_some_iff.mp e
  obtain ⟨h1, h2⟩ := lmax_ok e1
  refine ⟨a, ns, rfl, SqL.of q, List.length_pos_of_mem h1, fun m' g1 g2 => ?_⟩
  have : m' = m := Int.le_antisymm (h2 m' g1) (g2 m h1)
  subst this
  exact k _ (.int _)
theorem lk_min {K : PySem.W.Frag} : LkA ca fMin (rMin K) := fun b μ F H h Wx vs ds Q R Vs _ p => by
  obtain ⟨a, ns, r, rfl, q, e, k⟩ := fInts_ok R Vs p
  obtain ⟨m, e1, rfl⟩ := Option.map_eq_some_iff.mp e
  obtain ⟨h1, h2⟩ := lmin_ok e1
  refine ⟨a, ns, rfl, SqL.of q, List.length_pos_of_mem h1, fun m' g1 g2 => ?_⟩
  have : m' = m := Int.le_antisymm (g2 m h1) (h2 m' g1)
  subst this
  exact k _ (.int _)
def fMax2 : FA := fun xs h => match xs with
  | [.int i, .int j] => .ok (.v (.int (if j > i then j else i))) h
  | _ => .stuck
def fMin2 : FA := fun xs h => match xs with
  | [.int i, .int j] => .ok (.v (.int (if j < i then j else i))) h
  | _ => .stuck
theorem VRs.two {μ : List Addr} {F : Hp} {vs : List V} {d1 d2 : D} (r : VRs ca μ F vs [d1, d2]) : ∃ v w, vs = [v, w] ∧ VR ca μ F v d1 ∧ VR ca μ F w d2 := by
  cases r with
  | cons h t => cases t with
    | cons h2 t => cases t; exact ⟨_, _, rfl, h, h2⟩
theorem lk_max2 : LkA ca fMax2 (fun xs H Q => ∃ i j, xs = [.int i, .int j] ∧ Q (.int (if j > i then j else i)) H) := fun b μ F H h Wx vs ds Q R Vs _ p => by
  unfold fMax2 at p
  split at p
  · obtain ⟨v, w, rfl, V1, V2⟩ := Vs.two
    cases V1; cases V2
    exact ⟨_, _, rfl, p.ok R _ (.int _)⟩
  · exact p.elim
theorem lk_min2 : LkA ca fMin2 (fun xs H Q => ∃ i j, xs = [.int i, .int j] ∧ Q (.int (if j < i then j else i)) H) := fun b μ F H h Wx vs ds Q R Vs _ p => by
  unfold fMin2 at p
  split at p
  · obtain ⟨v, w, rfl, V1, V2⟩ := Vs.two
    cases V1; cases V2
    exact ⟨_, _, rfl, p.ok R _ (.int _)⟩
  · exact p.elim
def fBls (f : List Bool → Bool) : FA := fun xs h => match xs with
  | [d] => match asL h d with
    | some ds => match asB ds with
      | some ns => .ok (.v (.bl (f ns))) h
      | none => .stuck
    | none => .stuck
  | _ => .stuck
def fAny : FA := fBls fun ns => ns.any id
def fAll : FA := fBls fun ns => ns.all id
theorem fBls_ok {f : List Bool → Bool} {b : Nat} {μ : List Addr} {F H : Hp} {h : Own} {Wx : Nat → Hp → Prop} {vs : List V} {ds : List D} {Q : VK} (R : RelH ca μ F h H) (Vs : VRs ca μ F vs ds)
    (p : PostG ca b μ F H h (fBls f ds h) Wx (fun r μ1 F1 H1 _ => ∀ v, RR ca μ1 F1 H H1 v r → Q v H1)) : ∃ (a : Addr) (ns : List Bool), vs = [V.ref a] ∧ H a = some (.lst (ns.map V.bl)) ∧ Q (.bl (f ns)) H := by
  unfold fBls at p
  split at p
  · rename_i d
    obtain ⟨v, rfl, Vr⟩ := Vs.one
    cases e1 : asL h d with
    | some ds =>
      simp only [e1] at p
      obtain ⟨a, vs, rfl, q, r⟩ := asL_ok R Vr e1
      cases e2 : asB ds with
      | none => simp only [e2] at p; exact p.elim
      | some ns =>
        simp only [e2] at p
        have := asB_eq e2
        subst this
        have := r.bls
        subst this
        exact ⟨a, ns, rfl, q, p.ok R _ (.bl _)⟩
    | none => simp only [e1] at p; exact p.elim
  · exact p.elim
theorem lk_any {K : PySem.W.Frag} : LkA ca fAny (rAny K) := fun b μ F H h Wx vs ds Q R Vs _ p => by
  obtain ⟨a, ns, rfl, q, k⟩ := fBls_ok R Vs p
  exact ⟨a, ns, rfl, SqL.of q, k⟩
theorem lk_all {K : PySem.W.Frag} : LkA ca fAll (rAll K) := fun b μ F H h Wx vs ds Q R Vs _ p => by
  obtain ⟨a, ns, rfl, q, k⟩ := fBls_ok R Vs p
  exact ⟨a, ns, rfl, SqL.of q, k⟩
/-! ### sorted -/
def isort (ns : List Int) : List Int := ns.mergeSort (· ≤ ·)
theorem isort_uniq {ns ms : List Int} (hp : ms.Perm ns) (hs : ms.Pairwise (· ≤ ·)) : ms = isort ns := by
  have h1 : (isort ns).Perm ns := List.mergeSort_perm _ _
  have h2 : (isort ns).Pairwise (· ≤ ·) := by
    have := List.pairwise_mergeSort (le := fun a b : Int => decide (a ≤ b)) (fun a b c h1 h2 => by simp at *; omega) (fun a b => by simp; omega) ns
    exact this.imp fun h => by simpa using h
  exact (hp.trans h1.symm).eq_of_pairwise (fun a b _ _ h1 h2 => Int.le_antisymm h1 h2) hs h2
def keyI : List Key → Option (List Int)
  | [] => some []
  | .inl i :: ks => (keyI ks).map (i :: ·)
  | _ :: _ => none
theorem keyI_eq : ∀ {ks : List Key} {ns : List Int}, keyI ks = some ns → ks = ns.map Sum.inl
  | [], ns, e => by cases e; rfl
  | .inl i :: ks, ns, e => by
    rw [keyI] at e
    obtain ⟨ns', e1, rfl⟩ := Option.map_eq_some_iff.mp e
    rw [keyI_eq e1]; rfl
  | .inr _ :: _, _, e => by cases e
@[simp] theorem keyI_map (ns : List Int) : keyI (ns.map Sum.inl) = some ns := by
  induction ns with
  | nil => rfl
  | cons n ns ih => rw [List.map_cons, keyI, ih]; rfl
def fSortI : FA := fun xs h => match xs with
  | [d] => match asL h d with
    | some ds => match asI ds with
      | some ns => .ok (.n (.lst ((isort ns).map .int))) h
      | none => .stuck
    | none => .stuck
  | _ => .stuck
theorem lk_sortI {K : PySem.W.Frag} : LkA ca fSortI (rSortedI K) := fun b μ F H h Wx vs ds Q R Vs _ p => by
  unfold fSortI at p
  split at p
  · rename_i d
    obtain ⟨v, rfl, Vr⟩ := Vs.one
    cases e1 : asL h d with
    | some ds =>
      simp only [e1] at p
      obtain ⟨a, vs, rfl, q, r⟩ := asL_ok R Vr e1
      cases e2 : asI ds with
      | none => simp only [e2] at p; exact p.elim
      | some ns =>
        simp only [e2] at p
        have := asI_eq e2
        subst this
        have := r.ints
        subst this
        refine ⟨a, ns, rfl, SqL.of q, fun ms l h1 h2 hl => ?_⟩
        rw [isort_uniq h1 h2]
        exact new_lst R (VRs.of_ints _) p hl
    | none => simp only [e1] at p; exact p.elim
  · exact p.elim
def fSortD : FA := fun xs h => match xs with
  | [d] => match asD h d with
    | some (.k kds) => match keyI (kds.map (·.1)) with
      | some ns => if ns.length < 64 then .ok (.n (.lst ((isort ns).map .int))) h else .stuck
      | none => .stuck
    | _ => .stuck
  | _ => .stuck
def rSortD : List V → Hp → VK → Prop := fun xs H Q => ∃ (a : Addr) (kvs : List (Key × V)) (ks : List Int), xs = [.ref a] ∧ Rd H a (.dK kvs) ∧ kvs.map (·.1) = ks.map Sum.inl ∧ ks.length < 64 ∧
    ∀ (ys : List Int) (p : Addr), ys.Perm ks → ys.Pairwise (· ≤ ·) → H p = none → Q (.ref p) (upd H p (.lst (ys.map V.int)))
theorem lk_sortD : LkA ca fSortD rSortD := fun b μ F H h Wx vs ds Q R Vs _ p => by
  unfold fSortD at p
  split at p
  · rename_i d
    obtain ⟨v, rfl, Vr⟩ := Vs.one
    split at p
    · rename_i kds e1
      obtain ⟨a, rfl, kvs, q1, q2, q3⟩ := asD_ok R Vr e1
      cases e2 : keyI (kds.map (·.1)) with
      | none => simp only [e2] at p; exact p.elim
      | some ns =>
        simp only [e2] at p
        by_cases hC : ns.length < 64
        · rw [if_pos hC] at p
          refine ⟨a, kvs, ns, rfl, q1, by rw [q2]; exact keyI_eq e2, hC, fun ms l h1 h2 hl => ?_⟩
          rw [isort_uniq h1 h2]
          exact new_lst R (VRs.of_ints _) p hl
        · rw [if_neg hC] at p; exact p.elim
    · exact p.elim
  · exact p.elim
def orA (f g : FA) : FA := fun x h => match f x h with | .stuck => g x h | z => z
def fSorted : FA := orA fSortI fSortD
theorem cr_sorted' (hc : X.calm = true) : CallR X (.builtin "sorted") (fun xs H Q => rSortedI X.K xs H Q ∨ rSortD xs H Q) := cr_sortedI.or (call_sortedDI hc)
theorem lk_sorted {K : PySem.W.Frag} : LkA ca fSorted (fun xs H Q => rSortedI K xs H Q ∨ rSortD xs H Q) := lk_sortI.or lk_sortD
/-! ### isinstance -/
def tyD (h : Own) : D → Option String
  | .non => some "NoneType"
  | .bl _ => some "bool"
  | .int _ => some "int"
  | .str _ => some "str"
  | .tup _ => some "tuple"
  | .lst _ => some "list"
  | .dK _ => some "dict"
  | .dT _ => some "dict"
  | .ref n => match h[n]? with
    | some (.lst _) => some "list"
    | some (.dK _) => some "dict"
    | some (.dT _) => some "dict"
    | _ => none
  | _ => none
theorem tyD_ok {K : PySem.W.Frag} {μ : List Addr} {F H : Hp} {h : Own} {v : V} {d : D} {T : String} (R : RelH ca μ F h H) (V1 : VR ca μ F v d) (e : tyD h d = some T) : TyX K H v (.type T) := by
  cases V1 with
  | non => cases e; exact .base .non
  | bl => cases e; exact .base (.bl _)
  | int => cases e; exact .base (.int _)
  | str => cases e; exact .base (.str _)
  | tup q r => cases e; exact .base (.tup (R.fz _ _ q))
  | lst q r => cases e; exact .base (.lst (R.fz _ _ q))
  | dK q k r => cases e; exact .base (.dK (R.fz _ _ q))
  | dT q k r => cases e; exact .base (.dT (R.fz _ _ q))
  | obj => cases e
  | ro a => cases e
  | ref q =>
    rename_i a n
    unfold tyD at e
    dsimp only at e
    split at e
    · rename_i ds q2
      cases e
      obtain ⟨vs, q3, r3⟩ := R.ob n _ _ q q2
      exact .base (.lst q3)
    · rename_i ds q2
      cases e
      obtain ⟨vs, q3, r3⟩ := R.ob n _ _ q q2
      exact .base (.dK q3)
    · rename_i ds q2
      cases e
      obtain ⟨vs, q3, r3⟩ := R.ob n _ _ q q2
      exact .base (.dT q3)
    · cases e
def eIsI (T : String) (x : ED) : ED := fun τ h => (x τ h).bind fun d h1 => match tyD h1 d with
  | some t => match kitB t T with
    | some k => .ok (.bl k) h1
    | none => .stuck
  | none => .stuck
theorem sd_isi {T : String} {x : ED} (h : PE X e (tCB (rIsi X.K) (L2.tCons (rdD ca W x) (L2.tCons (tC (.ty T)) L2.tNil)))) : SD ca X W e (eIsI T x) := PE.imp h fun σ H Q ⟨μ, F, τ, h, A, p⟩ => ⟨μ, F, τ, h, A, p.bind.imp fun d μ1 F1 H1 h1 E1 R1 q v Vr => by
  cases e1 : tyD h1 d with
  | none => rw [e1] at q; exact q.elim
  | some t =>
    rw [e1] at q
    dsimp only at q
    cases e2 : kitB t T with
    | none => rw [e2] at q; exact q.elim
    | some k =>
      rw [e2] at q
      exact ⟨v, .ty T, _, .type T, k, rfl, .ty T, tyD_ok R1 Vr e1, kit_ty e2, q.ok R1 _ (.bl _)⟩⟩
/-! ### methods of lists -/
def ownL (h : Own) : D → Option (Nat × List D)
  | .ref n => match h[n]? with
    | some (.lst ds) => some (n, ds)
    | _ => none
  | _ => none
theorem ownL_ok {μ : List Addr} {F H : Hp} {h : Own} {v : V} {d : D} {n : Nat} {ds : List D} (R : RelH ca μ F h H) (V1 : VR ca μ F v d) (e : ownL h d = some (n, ds)) : ∃ a vs, v = .ref a ∧ μ[n]? = some a ∧ h[n]? = some (.lst ds) ∧ H a = some (.lst vs) ∧ VRs ca μ F vs ds := by
  cases V1 with
  | ref q =>
    rename_i a m
    unfold ownL at e
    dsimp only at e
    split at e
    · rename_i ds' q2
      cases e
      obtain ⟨vs, q3, r3⟩ := R.ob _ _ _ q q2
      exact ⟨a, vs, rfl, q, q2, q3, r3⟩
    · cases e
  | _ => cases e
/-- an own list becomes another; what is handed back -/
def chL (f : List D → List D → Option (List D × D)) : FM := fun d xs b h => match ownL h d with
  | some (n, ds) => match f ds xs with
    | some (ds', r) => match putO h b n (.lst ds') with
      | some h' => .ok (.v r) h'
      | none => .stuck
    | none => .stuck
  | none => .stuck
theorem chL_ok {f : List D → List D → Option (List D × D)} {b : Nat} {μ : List Addr} {F H : Hp} {h : Own} {Wx : Nat → Hp → Prop} {x : V} {d : D} {vs : List V} {es : List D} {Q : VK} (R : RelH ca μ F h H) (V1 : VR ca μ F x d)
    (p : PostG ca b μ F H h (chL f d es b h) Wx (fun r μ1 F1 H1 _ => ∀ v, RR ca μ1 F1 H H1 v r → Q v H1)) :
    ∃ (a : Addr) (ws : List V) (ds ds' : List D) (r : D), x = .ref a ∧ H a = some (.lst ws) ∧ VRs ca μ F ws ds ∧ f ds es = some (ds', r) ∧ ∀ ws' v, VRs ca μ F ws' ds' → VR ca μ F v r → Q v (upd H a (.lst ws')) := by
  unfold chL at p
  cases e1 : ownL h d with
  | none => rw [e1] at p; exact p.elim
  | some q =>
    obtain ⟨n, ds⟩ := q
    rw [e1] at p
    dsimp only at p
    obtain ⟨a, ws, rfl, en, e0, q1, r1⟩ := ownL_ok R V1 e1
    cases e2 : f ds es with
    | none => rw [e2] at p; exact p.elim
    | some q2 =>
      obtain ⟨ds', r⟩ := q2
      rw [e2] at p
      dsimp only at p
      cases e3 : putO h b n (.lst ds') with
      | none => rw [e3] at p; exact p.elim
      | some h' =>
        rw [e3] at p
        refine ⟨a, ws, ds, ds', r, rfl, q1, r1, e2, fun ws' v rw' rv => ?_⟩
        obtain ⟨R2, E2⟩ := put_ok R en e0 rfl e3 (u := .lst ws') fun H' q => ⟨_, q, rw'⟩
        exact p μ F _ E2 R2 v (show VR ca _ _ _ _ from rv)
def fAppend : FM := chL fun ds xs => match xs with
  | [x] => if ds.length < sizeLine then some (ds ++ [x], .non) else none
  | _ => none
theorem lk_append : LkM ca fAppend rAppend := fun b μ F H h Wx x d vs ds Q R V1 Vs _ p => by
  obtain ⟨a, ws, ds0, ds', r, rfl, q, r1, e, k⟩ := chL_ok (vs := vs) R V1 p
  split at e
  · rename_i y
    obtain ⟨v, rfl, Vr⟩ := Vs.one
    by_cases hl : ds0.length < sizeLine
    · rw [if_pos hl] at e
      cases e
      exact ⟨a, ws, v, rfl, rfl, q, by rw [r1.length]; exact hl, k _ _ (r1.append (.cons Vr .nil)) .non⟩
    · rw [if_neg hl] at e; cases e
  · cases e
def fPop : FM := chL fun ds xs => match xs with
  | [] => match ds[ds.length - 1]? with
    | some y => some (ds.dropLast, y)
    | none => none
  | _ => none
theorem VRs.dropLast {μ : List Addr} {F : Hp} {vs : List V} {ds : List D} (r : VRs ca μ F vs ds) : VRs ca μ F vs.dropLast ds.dropLast := by
  rw [List.dropLast_eq_take, List.dropLast_eq_take, r.length]
  exact r.take _
theorem lk_pop : LkM ca fPop rPop := fun b μ F H h Wx x d vs ds Q R V1 Vs _ p => by
  obtain ⟨a, ws, ds0, ds', r, rfl, q, r1, e, k⟩ := chL_ok (vs := vs) R V1 p
  split at e
  · cases Vs
    split at e
    · rename_i y ey
      cases e
      obtain ⟨v, ev, Vr⟩ := r1.get ey
      exact ⟨a, ws, v, rfl, rfl, q, by rw [r1.length]; exact ev, k _ _ r1.dropLast Vr⟩
    · cases e
  · cases e
open Classical in
noncomputable def fPopAt : FM := chL fun ds xs => match xs with
  | [.int i] => if R63 i then match ixN ds.length i with
    | some k => match ds[k]? with
      | some y => some (ds.eraseIdx k, y)
      | none => none
    | none => none else none
  | _ => none
theorem lk_popAt : LkM ca fPopAt rPopAt := fun b μ F H h Wx x d vs ds Q R V1 Vs _ p => by
  obtain ⟨a, ws, ds0, ds', r, rfl, q, r1, e, k⟩ := chL_ok (vs := vs) R V1 p
  split at e
  · rename_i i
    obtain ⟨v, rfl, Vi⟩ := Vs.one
    cases Vi
    by_cases hi : R63 i
    · rw [if_pos hi] at e
      cases ek : ixN ds0.length i with
      | none => rw [ek] at e; cases e
      | some j =>
        rw [ek] at e
        dsimp only at e
        split at e
        · rename_i y ey
          cases e
          obtain ⟨v, ev, Vr⟩ := r1.get ey
          refine ⟨a, ws, i, j, v, rfl, rfl, q, (R63.of hi).1, (R63.of hi).2, ?_, ev, k _ _ (r1.eraseIdx j) Vr⟩
          rw [r1.length]
          exact (ixN_seq ek).1
        · cases e
    · rw [if_neg hi] at e; cases e
  · cases e
def fReverse : FM := chL fun ds xs => match xs with
  | [] => some (ds.reverse, .non)
  | _ => none
theorem lk_reverse : LkM ca fReverse rReverse := fun b μ F H h Wx x d vs ds Q R V1 Vs _ p => by
  obtain ⟨a, ws, ds0, ds', r, rfl, q, r1, e, k⟩ := chL_ok (vs := vs) R V1 p
  split at e
  · cases Vs
    cases e
    exact ⟨a, ws, rfl, rfl, q, k _ _ r1.reverse .non⟩
  · cases e
def fExtend : FM := fun d xs b h => match ownL h d, xs with
  | some (n, ds), [x] => match asL h x with
    | some es => if ds.length + es.length ≤ sizeLine then match putO h b n (.lst (ds ++ es)) with
      | some h' => .ok (.v .non) h'
      | none => .stuck else .stuck
    | none => .stuck
  | _, _ => .stuck
theorem lk_extend : LkM ca fExtend rExtend := fun b μ F H h Wx x d vs ds Q R V1 Vs _ p => by
  unfold fExtend at p
  split at p
  · rename_i n ds0 y e1
    obtain ⟨a, ws, rfl, en, e0, q1, r1⟩ := ownL_ok R V1 e1
    obtain ⟨v, rfl, Vr⟩ := Vs.one
    cases e2 : asL h y with
    | none => rw [e2] at p; exact p.elim
    | some es =>
      rw [e2] at p
      dsimp only at p
      obtain ⟨a2, ws2, rfl, q2, r2⟩ := asL_ok R Vr e2
      by_cases hl : ds0.length + es.length ≤ sizeLine
      · rw [if_pos hl] at p
        cases e3 : putO h b n (.lst (ds0 ++ es)) with
        | none => rw [e3] at p; exact p.elim
        | some h' =>
          rw [e3] at p
          obtain ⟨R2, E2⟩ := put_ok R en e0 rfl e3 (u := .lst (ws ++ ws2)) fun H' q => ⟨_, q, r1.append r2⟩
          exact ⟨a, a2, ws, ws2, rfl, rfl, q1, q2, by rw [r1.length, r2.length]; exact hl, p μ F _ E2 R2 _ (show VR ca _ _ _ _ from .non)⟩
      · rw [if_neg hl] at p; exact p.elim
  · exact p.elim
end
end Z
set_option Elab.async false
set_option linter.all false
set_option maxRecDepth 100000
set_option maxHeartbeats 1000000
/-! Z14: more operators and walks; what a printed proof asks of the text. -/
namespace Z
open PySem PySem.Spec L2
section
variable {ca : Cn} {X : Cx} {W : WF} {pos : Pos} {e a b c : Expr}
open Classical in
noncomputable def fRepL : F2 := fun x y h => match asL h x, y with
  | some xs, .int k => if R63 k ∧ xs.length * k.toNat ≤ sizeLine then .ok (.n (.lst (List.replicate k.toNat xs).flatten)) h else .stuck
  | _, _ => .stuck
theorem lk_repL : Lk2 ca fRepL rRep := by
  intro b μ F H h Wx x y c d Q R V1 V2 _ p
  unfold fRepL at p
  split at p
  · rename_i xs k e1
    obtain ⟨a, vs, rfl, q1, r1⟩ := asL_ok R V1 e1
    cases V2
    by_cases hC : R63 k ∧ xs.length * k.toNat ≤ sizeLine
    · rw [if_pos hC] at p
      exact ⟨a, k, vs, rfl, rfl, q1, (R63.of hC.1).1, (R63.of hC.1).2, by rw [r1.length]; exact hC.2, fun l hl => new_lst R (r1.rep _) p hl⟩
    · rw [if_neg hC] at p; exact p.elim
  · exact p.elim
noncomputable def fMulA : F2 := orF fMul fRepL
theorem op_mulA : OpR X (binaryOp .Mult) (fun x y H Q => rI CMul (fun i j => .int (i * j)) x y H Q ∨ rRep x y H Q) := op_mul.or op_rep
theorem lk_mulA : Lk2 ca fMulA (fun x y H Q => rI CMul (fun i j => .int (i * j)) x y H Q ∨ rRep x y H Q) := lk_mul.or lk_repL
/-- is True, is not False .. -/
def fIsB : F2
  | .bl x, .bl y, h => .ok (.v (.bl (decide (x = y)))) h
  | _, _, _ => .stuck
def fNotIsB : F2
  | .bl x, .bl y, h => .ok (.v (.bl (!decide (x = y)))) h
  | _, _, _ => .stuck
theorem op_isB : OpR X (compareOp .Is) rIsB := op_isBl
theorem op_notB : OpR X (compareOp .IsNot) rNotB := op_notBl
theorem lk_isB : Lk2 ca fIsB rIsB := by
  intro b μ F H h Wx x y c d Q R V1 V2 _ p
  cases V1 with
  | bl i =>
    cases V2 with
    | bl j => exact ⟨i, j, rfl, rfl, PostG.ok (a := Z.R.v (.bl (decide (i = j)))) p R _ (VR.bl _)⟩
    | _ => exact (show False from p).elim
  | _ => exact (show False from p).elim
theorem lk_notB : Lk2 ca fNotIsB rNotB := by
  intro b μ F H h Wx x y c d Q R V1 V2 _ p
  cases V1 with
  | bl i =>
    cases V2 with
    | bl j => exact ⟨i, j, rfl, rfl, PostG.ok (a := Z.R.v (.bl (!decide (i = j)))) p R _ (VR.bl _)⟩
    | _ => exact (show False from p).elim
  | _ => exact (show False from p).elim
/-- xs[::-1] -/
def fRevL : F1 := fun d h => match asL h d with
  | some ds => .ok (.n (.lst ds.reverse)) h
  | none => .stuck
theorem se_rev {x : ED} {k : Nat} {p1 p2 p3 : Pos} (hx : SD ca X W e x) : SE ca X W (.Subscript e (.Slice none none (some (.UnaryOp .USub (.Constant (.int 1) k p1) p2)) p3) pos) (Z.e1 fRevL x) :=
  PE.imp (pe_revL hx) (lk_un (r := fun x H1 Q => ∃ a xs, x = .ref a ∧ SqL X.K H1 a xs ∧ ∀ p, H1 p = none → Q (.ref p) (upd H1 p (.lst xs.reverse))) (by
    intro b μ F H h Wx x c Q R V1 _ p
    unfold fRevL at p
    cases e1 : asL h c with
    | none => rw [e1] at p; exact p.elim
    | some ds =>
      rw [e1] at p
      obtain ⟨a, vs, rfl, q, r⟩ := asL_ok R V1 e1
      exact ⟨a, vs, rfl, SqL.of q, fun l hl => new_lst R r.reverse p hl⟩))
/-- range(i, j, -1) -/
def downD (i : Int) (n : Nat) : List D := (List.range n).map fun (k : Nat) => D.int (i + (k : Nat) * (-1))
open Classical in
noncomputable def iR3 (xs : EA) : EI := fun τ h => (xs τ h).bind fun ds h1 => match ds with
  | [.int i, .int j, .int k] => if k = -1 ∧ R62 i ∧ R62 j then .ok (downD i (i - j).toNat, none) h1 else .stuck
  | _ => .stuck
theorem itc_ok {i : Int} {n : Nat} {μ : List Addr} {F H : Hp} {h : Own} : ItOk ca (downD i n) none (Itc i (-1) n) μ F H h := by
  intro b μ2 F2 h2 H2 E R hk j
  have hl : (downD i n).length = n := by simp [downD]
  rw [hl]
  refine ⟨fun hi => ⟨hi, fun x H3 y => ?_⟩, fun hi => hi⟩
  obtain ⟨e, y⟩ := y
  subst e y
  exact ⟨F2, .int (i + j * (-1)), by simp [downD, hi], fun b => Ext.refl, R, .int _⟩
theorem VRs.three {μ : List Addr} {F : Hp} {vs : List V} {d1 d2 d3 : D} (r : VRs ca μ F vs [d1, d2, d3]) : ∃ u v w, vs = [u, v, w] ∧ VR ca μ F u d1 ∧ VR ca μ F v d2 ∧ VR ca μ F w d3 := by
  cases r with
  | cons h t => cases t with
    | cons h2 t => cases t with
      | cons h3 t => cases t; exact ⟨_, _, _, rfl, h, h2, h3⟩
theorem si_r3 {tg : Expr} {xs : EA} (h : PI X tg e (iRng3 (rdA ca W xs))) : SI ca X W tg e (iR3 xs) := PI.imp h fun σ H R ⟨μ, F, τ, h, A, p⟩ => ⟨μ, F, τ, h, A, p.bind.imp fun ds μ1 F1 H1 h1 E1 R1 q vs Vs => by
  split at q
  · rename_i i j k
    obtain ⟨u, v, w, rfl, V1, V2, V3⟩ := Vs.three
    cases V1; cases V2; cases V3
    by_cases hj : k = -1 ∧ R62 i ∧ R62 j
    · rw [if_pos hj] at q
      obtain ⟨rfl, hj1, hj2⟩ := hj
      obtain ⟨h1, h2⟩ := R62.of hj1
      obtain ⟨h3, h4⟩ := R62.of hj2
      exact ⟨i, j, -1, (i - j).toNat, rfl, RgC.neg h1 h2 h3 h4, q.ok R1 (fun n o z => by cases z) _ itc_ok⟩
    · rw [if_neg hj] at q; exact q.elim
  · exact q.elim⟩
/-- enumerate(list) -/
def enD (ds : List D) : List D := ds.zipIdx.map fun p => .tup [.int (p.2 : Nat), p.1]
theorem enD_len (ds : List D) : (enD ds).length = ds.length := by simp [enD]
theorem enD_get {ds : List D} {i : Nat} {d : D} (h : ds[i]? = some d) : (enD ds)[i]? = some (.tup [.int (i : Nat), d]) := by
  simp [enD, List.getElem?_map, List.getElem?_zipIdx, h]
def iEn (xs : EA) : EI := fun τ h => (xs τ h).bind fun ds h1 => match ds with
  | [.lst ds] => .ok (enD ds, none) h1
  | [.ref n] => match h1[n]? with
    | some (.lst ds) => .ok (enD ds, some (n, .lst ds)) h1
    | _ => .stuck
  | _ => .stuck
theorem ite_ok {K : PySem.W.Frag} {ds : List D} {kp : Kp} {a : Addr} {μ : List Addr} {F H : Hp} {h : Own} (hh : ∀ b μ2 F2 h2 H2, Ext b μ F H h μ2 F2 H2 h2 → RelH ca μ2 F2 h2 H2 → kpOk kp h2 → ∃ vs, H2 a = some (.lst vs) ∧ VRs ca μ2 F2 vs ds) : ItOk ca (enD ds) kp (Ite K a) μ F H h := by
  intro b μ2 F2 h2 H2 E R hk i
  obtain ⟨vs, q, r⟩ := hh b μ2 F2 h2 H2 E R hk
  have hl := r.length
  rw [enD_len]
  refine ⟨fun hi => ⟨⟨vs, vs[i]'(by omega), SqL.of q, by rw [List.getElem?_eq_getElem]⟩, fun x H3 y => ?_⟩, fun hi => ⟨vs, SqL.of q, by omega⟩⟩
  obtain ⟨T, x0, rfl, hT, rfl, y⟩ := y
  obtain ⟨d, e1, e2⟩ := r.getV (y vs (SqL.of q))
  obtain ⟨_, R3⟩ := fzNew (b := 0) R hT (.tup [.int (i : Nat), x0])
  exact ⟨_, _, enD_get e1, fun b => (fzNew R hT _).1, R3, .tup upd_same (.cons (.int _) (.cons ((fzNew (b := 0) R hT _).1.vr e2) .nil))⟩
theorem si_en {tg : Expr} {xs : EA} (h : PI X tg e (iEnum X.K (rdA ca W xs))) : SI ca X W tg e (iEn xs) := PI.imp h fun σ H R ⟨μ, F, τ, h, A, p⟩ => ⟨μ, F, τ, h, A, p.bind.imp fun ds μ1 F1 H1 h1 E1 R1 q vs Vs => by
  split at q
  · rename_i ds
    obtain ⟨v, rfl, Vr⟩ := Vs.one
    cases Vr with
    | @lst a vs ds qt r => exact ⟨a, vs, rfl, SqL.of (R1.fz _ _ qt), q.ok R1 (fun n o z => by cases z) _ (ite_ok fun b μ2 F2 h2 H2 E R hk => ⟨vs, R.fz _ _ (E.fz _ _ qt), E.vrs r⟩)⟩
  · rename_i n
    obtain ⟨v, rfl, Vr⟩ := Vs.one
    cases Vr with
    | @ref a n en =>
      split at q
      · rename_i ds e0
        obtain ⟨vs, q1, r1⟩ := R1.ob n _ _ en e0
        exact ⟨a, vs, rfl, SqL.of q1, q.ok R1 (fun m o z => by cases z; exact e0) _ (ite_ok fun b μ2 F2 h2 H2 E R hk => R.ob n a _ (E.ix n a en) (hk n _ rfl))⟩
      · exact q.elim
  · exact q.elim⟩
/-- zip of two lists -/
def zipD (xs ys : List D) : List D := (xs.zip ys).map fun p => .tup [p.1, p.2]
def iZp (xs : EA) : EI := fun τ h => (xs τ h).bind fun ds h1 => match ds with
  | [.lst xs, .lst ys] => .ok (zipD xs ys, none) h1
  | _ => .stuck
theorem si_zp {tg : Expr} {xs : EA} (h : PI X tg e (iZip X.K (rdA ca W xs))) : SI ca X W tg e (iZp xs) := PI.imp h fun σ H R ⟨μ, F, τ, h, A, p⟩ => ⟨μ, F, τ, h, A, p.bind.imp fun ds μ1 F1 H1 h1 E1 R1 q vs Vs => by
  split at q
  · rename_i xs ys
    obtain ⟨v, w, rfl, V1, V2⟩ := Vs.two
    cases V1 with
    | @lst a vs ds qt r =>
    cases V2 with
    | @lst a2 vs2 ds2 qt2 r2 =>
      refine ⟨a, a2, vs, vs2, rfl, SqL.of (R1.fz _ _ qt), SqL.of (R1.fz _ _ qt2), q.ok R1 (fun n o z => by cases z) _ ?_⟩
      intro b μ2 F2 h2 H2 E R hk i
      have q1 := R.fz _ _ (E.fz _ _ qt)
      have q2 := R.fz _ _ (E.fz _ _ qt2)
      have k1 := E.vrs r
      have k2 := E.vrs r2
      have hl : (zipD xs ys).length = min xs.length ys.length := by simp [zipD]
      rw [hl, ← r.length, ← r2.length]
      refine ⟨fun hi => ⟨⟨vs, vs2, vs[i]'(by omega), vs2[i]'(by omega), SqL.of q1, SqL.of q2, by rw [List.getElem?_eq_getElem], by rw [List.getElem?_eq_getElem]⟩, fun x H3 y => ?_⟩, fun hi => ⟨vs, vs2, SqL.of q1, SqL.of q2, by omega⟩⟩
      obtain ⟨T, x0, y0, rfl, hT, rfl, z1, z2⟩ := y
      obtain ⟨d, f1, f2⟩ := k1.getV (z1 vs (SqL.of q1))
      obtain ⟨d', f1', f2'⟩ := k2.getV (z2 vs2 (SqL.of q2))
      obtain ⟨_, R3⟩ := fzNew (b := 0) R hT (.tup [x0, y0])
      refine ⟨_, .tup [d, d'], ?_, fun b => (fzNew R hT _).1, R3, .tup upd_same (.cons ((fzNew (b := 0) R hT _).1.vr f2) (.cons ((fzNew (b := 0) R hT _).1.vr f2') .nil))⟩
      have e3 : (xs.zip ys)[i]? = some (d, d') := List.getElem?_zip_eq_some.mpr ⟨f1, f1'⟩
      simp only [zipD, List.getElem?_map, e3]
      rfl
  · exact q.elim⟩
/-- a, b = x, y -/
def sPar (i j : Nat) (xs : EA) : ST := sE xs fun ds τ h => match ds with
  | [x, y] => .next ((τ.s.set i (some x)).set j (some y)) h
  | _ => .stuck
theorem ss_par {i j : Nat} {x y : Str} {ta : EA} {px py pt : Pos} {kt k2 : Nat} {pt2 : Pos} (hc : X.calm = true) (hN : X.N.Nodup) (hi : X.N[i]? = some x) (hj : X.N[j]? = some y) (hij : i ≠ j)
    (hx : X.env.scope.names.lookup x = some .local) (hy : X.env.scope.names.lookup y = some .local) (ha : SA ca X W [a, b] ta)
    (hw : swappedStores [.Tuple [.Name x px, .Name y py] kt pt] (.Tuple [a, b] k2 pt2) X.env = pure (some [x, y]))
    (hs : swapsWithSole [.Tuple [.Name x px, .Name y py] kt pt] (.Tuple [a, b] k2 pt2) pos.line X.env = pure false) :
    SS ca X W (.Assign [.Tuple [.Name x px, .Name y py] kt pt] (.Tuple [a, b] k2 pt2) pos) (sPar i j ta) := PS.imp (ps_par hc hN hi hj hij hx hy ha hw hs) fun D σ H ⟨μ, F, τ, h, A, p⟩ => ⟨μ, F, τ, h, A, (sE_post A p).imp fun ds μ1 F1 H1 h1 E1 R1 q vs Vs => by
    split at q
    · obtain ⟨v, w, rfl, V1, V2⟩ := Vs.two
      exact ⟨v, w, rfl, q μ1 F1 H1 _ Ext.refl R1 (((E1.sr A.sl).set i V1).set j V2)⟩
    · exact q.elim⟩
end
/-! ### what a printed proof asks of the text -/
structure Df (K : PySem.W.Frag) (mg : Str → Option Value) (x : Str) (st : Stmt) (ps : List Str) (f : Addr) (fd : FuncData) : Prop where
  F : Fun K x x st f fd
  m : mg x = some (.ref f)
  b : Binds K fd ps []
/-- .. called by the name x, which may be another -/
structure Dg (K : PySem.W.Frag) (mg : Str → Option Value) (x x0 : Str) (st : Stmt) (ps : List Str) (f : Addr) (fd : FuncData) : Prop where
  F : Fun K x0 x0 st f fd
  m : mg x = some (.ref f)
  b : Binds K fd ps []
theorem Df.dg {K : PySem.W.Frag} {mg : Str → Option Value} {x : Str} {st : Stmt} {ps : List Str} {f : Addr} {fd : FuncData} (D : Df K mg x st ps f fd) : Dg K mg x x st ps f fd := ⟨D.F, D.m, D.b⟩
structure ClF (ca : Cn) (K : PySem.W.Frag) (c : Nat) (ns : List Str) : Prop where
  cl : Cls K (ca.ad c)
  nm : ca.nm c = ns
  na : ∀ f ∈ ns, NoAttr K (ca.ad c) f
theorem ClF.at {ca : Cn} {K : PySem.W.Frag} {c : Nat} {ns : List Str} {i : Nat} {f : Str} (C : ClF ca K c ns) (nd : ns.Nodup) (e : ns[i]? = some f) : ∀ c' ∈ [c], Cls K (ca.ad c') ∧ NoAttr K (ca.ad c') f ∧ (ca.nm c').Nodup ∧ (ca.nm c')[i]? = some f := fun c' h => by
  have : c' = c := by simpa using h
  subst this
  exact ⟨C.cl, C.na f (List.mem_of_getElem? e), by rw [C.nm]; exact nd, by rw [C.nm]; exact e⟩
structure Mf (K : PySem.W.Frag) (mg : Str → Option Value) (ca : Cn) (x : Str) (c : Nat) (ps : List Str) (C f : Addr) (fd : FuncData) : Prop where
  ad : ca.ad c = C
  mkk : Mk K C f
  m : mg x = some (.ref C)
  b : Binds K fd ps []
theorem stuck_ok {P : Program} {w : World} {K : PySem.W.Frag} {mg : Str → Option Value} {base : Heap} {ca : Cn} {CX : CXT} {k n : Nat} {f : Addr} {fd : FuncData} {ps : List Str} : FnOk P w K mg base CX k f fd ps (spB ca n fun _ _ _ => .stuck) :=
  ⟨fun vs H Q E ⟨_, _, _, _, _, _, _, _, _, p⟩ => p.elim, fun A outer s H args us vs Q E _ _ _ _ ⟨_, _, _, _, _, _, _, _, _, p⟩ => p.elim⟩
theorem tk0 {X : Cx} : Takes X W0 := fun _ _ x => by
  obtain ⟨_, _, _, _, _, _, _, _, _, _, _, _, _, _, _, _, z⟩ := x
  exact z.elim
section
variable {ca : Cn} {X : Cx} {W : WF} {pos : Pos}
theorem se_callN {f : Addr} {fd : FuncData} {ps : List Str} {k n : Nat} {G : BD} {x : Str} {p : Pos} {es : List Expr} {xs : EA} (hn : ps.length = n) (F : FnOk X.prog X.w X.K X.mg X.base (L2.CX X.prog X.w) k f fd ps (spB ca n G)) (hr : Room k X.A) (hg : Gl X x) (hm : X.mg x = some (.ref f))
    (hk : PySem.W.keepIn X.K (.ref f) = true) (hb : Binds X.K fd ps []) (tk : Takes X W) (ha : SA ca X W (e :: es) xs) (hdb : (x == ("__debug__" : Str)) = false) (he : starEach (e :: es) X.env = (false, eval e X.env) :: starEach es X.env)
    (hpl : (backTo pos (starEach es X.env)).any (·.1) = false) : SE ca X W (.Call (.Name x p) (e :: es) [] pos) (eCall n G xs) := by
  subst hn; exact se_call F hr hg hm hk hb tk ha hdb he hpl
theorem se_mkN {C f : Addr} {cn n : Nat} {fd : FuncData} {ps : List Str} {k : Nat} {G : BD} {x : Str} {p : Pos} {es : List Expr} {xs : EA} (hn : ps.length = n) (hC : ca.ad cn = C) (M : Mk X.K C f) (F : FnOk X.prog X.w X.K X.mg X.base (L2.CX X.prog X.w) k f fd ps (spB ca n G)) (hr : Room (k + 1) X.A)
    (hg : Gl X x) (hm : X.mg x = some (.ref C)) (hb : Binds X.K fd ps []) (tk : Takes X W) (ha : SA ca X W (e :: es) xs) (hdb : (x == ("__debug__" : Str)) = false) (he : starEach (e :: es) X.env = (false, eval e X.env) :: starEach es X.env)
    (hpl : (backTo pos (starEach es X.env)).any (·.1) = false) : SE ca X W (.Call (.Name x p) (e :: es) [] pos) (eMk cn n G xs) := by
  subst hn; exact se_mk hC M F hr hg hm hb tk ha hdb he hpl
end
/-! ### list(script), where the script is the law's own list -/
def fListS : FA := fun xs h => match xs with
  | [.ro ns] => .ok (.n (.lst (ns.map .int))) h
  | _ => .stuck
theorem VRs.ofInts {ca : Cn} {μ : List Addr} {F : Hp} : ∀ ns : List Int, VRs ca μ F (ns.map V.int) (ns.map D.int)
  | [] => .nil
  | i :: ns => .cons (.int i) (VRs.ofInts ns)
theorem lk_listS {ca : Cn} {K : PySem.W.Frag} (hro : ∀ a ns H, ca.ro a ns → SqL K H a (ns.map V.int)) : LkA ca fListS (fun xs H Q => ∃ p ys, xs = [.ref p] ∧ (SqL K H p ys ∨ SqT K H p ys) ∧ ∀ l, H l = none → Q (.ref l) (upd H l (.lst ys))) := by
  intro b μ F H h Wx vs ds Q R Vs _ p
  unfold fListS at p
  split at p
  · rename_i ns
    obtain ⟨v, rfl, Vr⟩ := Vs.one
    cases Vr with
    | ro e =>
      rename_i a
      refine ⟨a, _, rfl, .inl ?_, fun l hl => new_lst R (VRs.ofInts ns) p hl⟩
      rcases e with e | e
      · exact .inl (e.imp (fun z => R.fz _ _ z) fun ⟨o, z⟩ => ⟨o, R.fz _ _ z⟩)
      · exact hro _ _ _ e
  · exact p.elim
end Z
set_option Elab.async false
set_option linter.all false
set_option maxRecDepth 100000
/-! Z15: the law's end: how the script comes in. -/
namespace Z
open PySem PySem.Spec L2
def roK (K : PySem.W.Frag) (a : Addr) (ns : List Int) : Prop :=
  ∃ (o : Obj) (its : Array Value) (n : Nat), K.lookup a = some o ∧ o.cls = .type "list" ∧ o.dict = none ∧ o.data = .seq its n ∧ its.size ≤ sizeLine ∧ Vals (ns.map V.int) its.toList
def cnK (cs : List (Str × List Str)) (ts : List (Str × Str)) (K : PySem.W.Frag) : Cn :=
  ⟨fun c => match PySem.W.nsIn K mainGlobals (cs.getD c ("", [])).1 with
    | some (some (.ref C)) => C
    | _ => 0, fun c => (cs.getD c ("", [])).2, roK K,
   fun j => match PySem.W.tabIn K (ts.getD j ("", "")).1 with
    | some (_, P) => (P, (ts.getD j ("", "")).2)
    | none => (0, "")⟩
theorem cnK_ad {cs : List (Str × List Str)} {ts : List (Str × Str)} {K : PySem.W.Frag} {c : Nat} {x : Str} {C : Addr} (hx : (cs.getD c ("", [])).1 = x) (e : PySem.W.nsIn K mainGlobals x = some (some (.ref C))) : (cnK cs ts K).ad c = C := by
  show (match PySem.W.nsIn K mainGlobals (cs.getD c ("", [])).1 with
    | some (some (.ref C)) => C
    | _ => 0) = C
  rw [hx, e]
theorem cnK_tb {cs : List (Str × List Str)} {ts : List (Str × Str)} {K : PySem.W.Frag} {j : Nat} {x q : Str} {c P : Addr} (hx : ts.getD j ("", "") = (x, q)) (e : PySem.W.tabIn K x = some (c, P)) : (cnK cs ts K).tb j = (P, q) := by
  show (match PySem.W.tabIn K (ts.getD j ("", "")).1 with
    | some (_, P) => (P, (ts.getD j ("", "")).2)
    | none => (0, "")) = (P, q)
  rw [hx, e]
/-- the tables as own things -/
def tabs : Nat → Own
  | 0 => []
  | n + 1 => tabs n ++ [.tb n]
theorem tabs_len : ∀ n, (tabs n).length = n
  | 0 => rfl
  | n + 1 => by rw [tabs, List.length_append, tabs_len n]; rfl
theorem tabs_get : ∀ {n j : Nat} {o : O}, (tabs n)[j]? = some o → o = .tb j
  | 0, j, o, h => by simp [tabs] at h
  | n + 1, j, o, h => by
    rw [tabs] at h
    by_cases hj : j < n
    · rw [List.getElem?_append_left (by rw [tabs_len]; exact hj)] at h
      exact tabs_get h
    · rw [List.getElem?_append_right (by rw [tabs_len]; omega), tabs_len] at h
      have : j = n := by
        have := (List.getElem?_eq_some_iff.mp h).1
        simp at this
        omega
      subst this
      simp at h
      exact h.symm
theorem entry {ca : Cn} {K : PySem.W.Frag} {G : BD} {H : Hp} {a : Addr} {ns : List Int} {cs : List (Addr × Addr)} (hro : ∀ a ns, roK K a ns → ca.ro a ns) (hT : ∀ p ∈ cs, H p.2 = some (.tbl #[])) (nd : (cs.map (·.2)).Nodup)
    (ht : ∀ j p, cs[j]? = some p → (ca.tb j).1 = p.2) (hS : SqL K H a (ns.map V.int))
    (hG : ∃ h, G 0 [.ro ns] (tabs cs.length) = .ret (.v (.bl true)) h) : spB ca 1 G [.ref a] H (fun v _ => v = .bl true) fun _ _ _ => False := by
  obtain ⟨h, e⟩ := hG
  have mt : ∀ b ∈ cs.map (·.2), H b = some (.tbl #[]) := fun b hb => by
    obtain ⟨p, hp, rfl⟩ := List.mem_map.mp hb
    exact hT p hp
  classical
  refine ⟨cs.map (·.2), fun b => if b ∈ cs.map (·.2) then none else H b, tabs cs.length, [.ro ns], 0, ⟨by rw [List.length_map, tabs_len], nd, fun x u z => ?_, fun n b o z _ _ => if_pos (List.mem_of_getElem? z), fun b hb => by rw [mt b hb]; simp, fun n b o z z2 => ?_⟩, .cons (.ro ?_) .nil, rfl, Nat.zero_le _, ?_⟩
  · split at z
    · cases z
    · exact z
  · rw [tabs_get z2]
    rw [List.getElem?_map] at z
    cases ep : cs[n]? with
    | none => rw [ep] at z; cases z
    | some p =>
      rw [ep] at z
      cases z
      refine ⟨(ht n p ep).symm, #[], hT p (List.mem_of_getElem? ep), True.intro, fun pos cv hc => ?_⟩
      have z : codeAmong pos [] = some cv := hc
      simp [codeAmong] at z
  · rcases hS with q | q
    · refine .inl ?_
      have na : a ∉ cs.map (·.2) := fun z => by
        have e1 := mt a z
        rcases q with q | ⟨o, q⟩
        · rw [e1] at q; cases q
        · rw [e1] at q; cases q
      rcases q with q | ⟨o, q⟩
      · exact .inl ((if_neg na).trans q)
      · exact .inr ⟨o, (if_neg na).trans q⟩
    · exact .inr (hro _ _ q)
  · rw [e]
    intro μ1 F1 H1 v E R V1
    have V2 : VR ca μ1 F1 v (.bl true) := V1
    cases V2
    rfl
theorem cx_end {P : Program} {w : World} {H : Hp} {s : Shared} {e : Value} {s' : Shared} (h : L2.CX P w [] H s (fun _ _ _ => False) e s') : False := by
  obtain ⟨_, _, _, _, _, _, _, _, _, _, _, _, z⟩ := h
  exact z
end Z
set_option Elab.async false
set_option linter.all false
set_option maxRecDepth 100000
/-! Z16: to compute with the own semantics: rules for simp, loops. -/
namespace Z
open PySem PySem.Spec L2
/-! ### statements and what they leave -/
def W (x : SRes) (Q : SRes → Prop) : Prop := Q x
def Th (b : ST) (k : Nat) (Q : SRes → Prop) : SRes → Prop := fun r => match r with
  | .next s h => W (b ⟨k, s⟩ h) Q
  | r => Q r
section
variable {a b : ST} {t : EB} {τ : Fm} {h : Own} {Q : SRes → Prop} {k : Nat} {s : Sl}
@[simp] theorem W_seq : W (sSeq a b τ h) Q = W (a τ h) (Th b τ.b Q) := by
  unfold W sSeq
  cases a τ h <;> rfl
@[simp] theorem W_th_next : W (.next s h) (Th b k Q) = W (b ⟨k, s⟩ h) Q := rfl
@[simp] theorem W_th_ret {r : R} : W (.ret r h) (Th b k Q) = W (.ret r h) Q := rfl
@[simp] theorem W_th_brk : W (.brk s h) (Th b k Q) = W (.brk s h) Q := rfl
@[simp] theorem W_th_cnt : W (.cnt s h) (Th b k Q) = W (.cnt s h) Q := rfl
@[simp] theorem W_th_stuck : W .stuck (Th b k Q) = W .stuck Q := rfl
@[simp] theorem sPass_eq : sPass τ h = .next τ.s h := rfl
@[simp] theorem sBrk_eq : sBrk τ h = .brk τ.s h := rfl
@[simp] theorem sCnt_eq : sCnt τ h = .cnt τ.s h := rfl
@[simp] theorem sNever_eq : sNever τ h = .stuck := rfl
@[simp] theorem sIf_eq : sIf t a b τ h = sE t (fun k τ h => if k = true then a τ h else b τ h) τ h := rfl
@[simp] theorem sE_eq {α : Type} {x : Fm → Own → Res α} {f : α → Fm → Own → SRes} : sE x f τ h = (match x τ h with
  | .ok a h1 => f a τ h1
  | .exc c h1 => .exc c τ.s h1
  | .stuck => .stuck) := rfl
@[simp] theorem sX_eq {x : ED} : sX x τ h = sE x (fun _ τ h => .next τ.s h) τ h := rfl
@[simp] theorem sRet_eq {x : EX} : sRet x τ h = sE x (fun r _ h => .ret r h) τ h := rfl
@[simp] theorem sRetN_eq : sRetN τ h = .ret (.v .non) h := rfl
@[simp] theorem sSet_eq {i : Nat} {x : ED} : sSet i x τ h = sE x (fun d τ h => .next (τ.s.set i (some d)) h) τ h := rfl
@[simp] theorem sA_eq {x : ED} {g : ET} : sA x g τ h = sE x (fun d τ h => match g d τ h with
  | .next s h1 => .next s h1
  | _ => .stuck) τ h := rfl
end
section
variable {τ : Fm} {h h1 : Own} {d x y : D}
@[simp] theorem eVar_eq {i b : Nat} {s : Sl} : eVar i ⟨b, s⟩ h = (match s[i]? with
  | some (some d) => .ok d h
  | _ => .stuck) := rfl
@[simp] theorem eC_eq : eC d τ h = .ok d h := rfl
@[simp] theorem e2_eq {f : F2} {a b : ED} : e2 f a b τ h = (a τ h).bind fun x h1 => (b τ h1).bind fun y h2 => f x y h2 := rfl
@[simp] theorem e1_eq {f : F1} {a : ED} : Z.e1 f a τ h = (a τ h).bind fun x h1 => f x h1 := rfl
@[simp] theorem ed_eq {x : EX} : ed x τ h = (x τ h).bind fun r h1 => match r with
  | .v d => .ok d h1
  | .n o => match frzO o with
    | some d => .ok d h1
    | none => .stuck := rfl
@[simp] theorem ev_eq {x : ED} : ev x τ h = (x τ h).bind fun d h1 => .ok (.v d) h1 := rfl
@[simp] theorem eAl_eq {x : EX} : eAl x τ h = (x τ h).bind fun r h1 => match r with
  | .v d => .ok d h1
  | .n o => .ok (.ref h1.length) (h1 ++ [o]) := rfl
@[simp] theorem eFz_eq {x : ED} : eFz x τ h = (x τ h).bind fun d h1 => fzr τ.b d h1 := rfl
@[simp] theorem fzr_eq {b m : Nat} : fzr b (.ref m) h = if b ≤ m then match h[m]? with
    | some o => match frzO o with
      | some d => .ok d (h.set m .dead)
      | none => .stuck
    | none => .stuck else .stuck := rfl
@[simp] theorem aNil_eq : aNil τ h = .ok [] h := rfl
@[simp] theorem aCons_eq {x : ED} {xs : EA} : aCons x xs τ h = (x τ h).bind fun d h1 => (xs τ h1).bind fun ds h2 => .ok (d :: ds) h2 := rfl
@[simp] theorem eTup_eq {xs : EA} : eTup xs τ h = (xs τ h).bind fun ds h1 => if ds.length ≤ sizeLine then .ok (.tup ds) h1 else .stuck := rfl
@[simp] theorem eLst_eq {xs : EA} : eLst xs τ h = (xs τ h).bind fun ds h1 => if ds.length ≤ sizeLine then .ok (.n (.lst ds)) h1 else .stuck := rfl
@[simp] theorem eA_eq {f : FA} {xs : EA} : eA f xs τ h = (xs τ h).bind fun ds h1 => f ds h1 := rfl
@[simp] theorem eCall_eq {n : Nat} {G : BD} {xs : EA} : eCall n G xs τ h = (xs τ h).bind fun ds h1 => if ds.length = n then callB G ds h1 else .stuck := rfl
@[simp] theorem eM_eq {T : String} {f : FM} {x : ED} {xs : EA} : eM T f x xs τ h = (x τ h).bind fun d h1 => if isTy T h1 d = true then (xs τ h1).bind fun ds h2 => f d ds τ.b h2 else .stuck := rfl
@[simp] theorem eTB_eq {x : EX} : eTB x τ h = (x τ h).bind fun r h1 => match r with
  | .v (.bl k) => .ok k h1
  | _ => .stuck := rfl
@[simp] theorem eT_eq {x : ED} : eT x τ h = (x τ h).bind fun d h1 => match tru h1 d with
  | some k => .ok k h1
  | none => .stuck := rfl
@[simp] theorem bAnd_eq {a b : EB} : bAnd a b τ h = (a τ h).bind fun k h1 => if k = true then b τ h1 else .ok false h1 := rfl
@[simp] theorem bOr_eq {a b : EB} : bOr a b τ h = (a τ h).bind fun k h1 => if k = true then .ok true h1 else b τ h1 := rfl
@[simp] theorem bNot_eq {a : EB} : bNot a τ h = (a τ h).bind fun k h1 => .ok (!k) h1 := rfl
@[simp] theorem bYes_eq : bYes τ h = .ok true h := rfl
@[simp] theorem vAnd_eq {a b : ED} : vAnd a b τ h = (a τ h).bind fun x h1 => match x with
  | .bl true => b τ h1
  | .bl false => .ok (.bl false) h1
  | _ => .stuck := rfl
@[simp] theorem vOr_eq {a b : ED} : vOr a b τ h = (a τ h).bind fun x h1 => match x with
  | .bl false => b τ h1
  | .bl true => .ok (.bl true) h1
  | _ => .stuck := rfl
@[simp] theorem eIf_eq {t : EB} {a b : EX} : eIf t a b τ h = (t τ h).bind fun k h1 => if k = true then a τ h1 else b τ h1 := rfl
@[simp] theorem eCh_eq {f g : F2} {a b c : ED} : eCh f g a b c τ h = (a τ h).bind fun x h1 => (b τ h1).bind fun y h2 => (f x y h2).bind fun r h3 => match r with
  | .v (.bl true) => (c τ h3).bind fun z h4 => g y z h4
  | .v (.bl false) => .ok (.v (.bl false)) h3
  | _ => .stuck := by
  unfold eCh
  rfl
@[simp] theorem eIsI_eq {T : String} {x : ED} : eIsI T x τ h = (x τ h).bind fun d h1 => match tyD h1 d with
  | some t => match kitB t T with
    | some k => .ok (.bl k) h1
    | none => .stuck
  | none => .stuck := rfl
@[simp] theorem oNone_eq : oNone τ h = .ok none h := rfl
@[simp] theorem oSome_eq {x : ED} : oSome x τ h = (x τ h).bind fun d h1 => match d with
  | .int i => .ok (some i) h1
  | _ => .stuck := by
  unfold oSome
  rfl
@[simp] theorem eSl_eq {x : ED} {lo hi : EO} : eSl x lo hi τ h = (x τ h).bind fun d h1 => (lo τ h1).bind fun l h2 => (hi τ h2).bind fun u h3 => fSl d l u h3 := rfl
@[simp] theorem tN_eq {i : Nat} : tN i d τ h = .next (τ.s.set i (some d)) h := rfl
/-! operators at ints -/
@[simp] theorem fSub_ii {i j : Int} : fSub (.int i) (.int j) h = .ok (.v (.int (i - j))) h := rfl
@[simp] theorem f1_ii {i j : Int} : f1 (.int i) (.int j) h = .ok (.v (.int (i + j))) h := rfl
@[simp] theorem fAdd_ii {i j : Int} : fAdd (.int i) (.int j) h = .ok (.v (.int (i + j))) h := rfl
@[simp] theorem fAdd_tt {ds es : List D} : fAdd (.tup ds) (.tup es) h = if ds.length + es.length ≤ sizeLine then .ok (.v (.tup (ds ++ es))) h else .stuck := by
  show (match fAddT (.tup ds) (.tup es) h with | .stuck => (orF fAddS fAddL) (.tup ds) (.tup es) h | z => z) = _
  unfold fAddT
  dsimp only
  by_cases q : ds.length + es.length ≤ sizeLine
  · rw [if_pos q]
  · rw [if_neg q]
    dsimp only
    rfl
@[simp] theorem fMod_ii {i j : Int} : fMod (.int i) (.int j) h = if 0 < j then .ok (.v (.int (i % j))) h else .stuck := by simp [fMod, fIc]
@[simp] theorem fDiv_ii {i j : Int} : fDiv (.int i) (.int j) h = if 0 < j ∧ j < 1073741824 then .ok (.v (.int (i / j))) h else .stuck := by simp [fDiv, fIc]
@[simp] theorem fShl_ii {i j : Int} : fShl (.int i) (.int j) h = if 0 ≤ j ∧ j ≤ 1000000 ∧ i.natAbs < 2 ^ 64 then .ok (.v (.int (i * 2 ^ j.toNat))) h else .stuck := by simp [fShl, fIc, and_assoc]
@[simp] theorem fPow_ii {i j : Int} : fPow (.int i) (.int j) h = if 0 ≤ j ∧ j ≤ 1000000 ∧ i.natAbs < 2 ^ 64 then .ok (.v (.int (i ^ j.toNat))) h else .stuck := by simp [fPow, fIc, and_assoc]
@[simp] theorem fShr_ii {i j : Int} : fShr (.int i) (.int j) h = if 0 ≤ j then .ok (.v (.int (i / 2 ^ j.toNat))) h else .stuck := by simp [fShr, fIc]
@[simp] theorem fAnd_ii {i j : Int} : fAnd (.int i) (.int j) h = .ok (.v (.int (Builtin.bitAnd i j))) h := rfl
@[simp] theorem fOr_ii {i j : Int} : fOr (.int i) (.int j) h = .ok (.v (.int (Builtin.bitOr i j))) h := rfl
@[simp] theorem fLt_ii {i j : Int} : fLt (.int i) (.int j) h = .ok (.v (.bl (decide (i < j)))) h := rfl
@[simp] theorem fLe_ii {i j : Int} : fLe (.int i) (.int j) h = .ok (.v (.bl (decide (i ≤ j)))) h := rfl
@[simp] theorem fGt_ii {i j : Int} : fGt (.int i) (.int j) h = .ok (.v (.bl (decide (j < i)))) h := rfl
@[simp] theorem fGe_ii {i j : Int} : fGe (.int i) (.int j) h = .ok (.v (.bl (decide (j ≤ i)))) h := rfl
@[simp] theorem fEq_ii {i j : Int} : fEq (.int i) (.int j) h = .ok (.v (.bl (decide (i = j)))) h := by
  show Res.ok (R.v (.bl (PyData.eqv (.int i) (.int j)))) h = _
  simp [PyData.eqv]
  rfl
@[simp] theorem fNe_ii {i j : Int} : fNe (.int i) (.int j) h = .ok (.v (.bl (!decide (i = j)))) h := by
  show Res.ok (R.v (.bl (!PyData.eqv (.int i) (.int j)))) h = _
  simp [PyData.eqv]
  rfl
@[simp] theorem fNeg_i {i : Int} : fNeg (.int i) h = .ok (.v (.int (-i))) h := rfl
@[simp] theorem fNotB_b {k : Bool} : fNotB (.bl k) h = .ok (.v (.bl (!k))) h := rfl
@[simp] theorem fIsN_eq {k : Bool} : fIsN k d h = .ok (.v (.bl (if k then !isN d else isN d))) h := rfl
@[simp] theorem fFld_obj {cs : List Nat} {i c : Nat} {fs : List D} : fFld cs i (.obj c fs) h = if c ∈ cs then (match fs[i]? with | some d => .ok (.v d) h | none => .stuck) else .stuck := rfl
@[simp] theorem fInt_i {i : Int} : fInt [.int i] h = .ok (.v (.int i)) h := rfl
@[simp] theorem tru_bl {k : Bool} : tru h (.bl k) = some k := rfl
@[simp] theorem tru_int {i : Int} : tru h (.int i) = some (i != 0) := rfl
@[simp] theorem tru_tup {ds : List D} : tru h (.tup ds) = some (!ds.isEmpty) := rfl
@[simp] theorem tru_lst {ds : List D} : tru h (.lst ds) = some (!ds.isEmpty) := rfl
/-! sequences -/
@[simp] theorem asQ_tup {ds : List D} : asQ h (.tup ds) = some ds := rfl
@[simp] theorem asQ_lst {ds : List D} : asQ h (.lst ds) = some ds := rfl
@[simp] theorem asL_lst {ds : List D} : asL h (.lst ds) = some ds := rfl
theorem asQ_ref {n : Nat} {ds : List D} (e : h[n]? = some (.lst ds)) : asQ h (.ref n) = some ds := by unfold asQ asL; simp [e]
theorem asL_ref {n : Nat} {ds : List D} (e : h[n]? = some (.lst ds)) : asL h (.ref n) = some ds := by unfold asL; simp [e]
@[simp] theorem frzO_lst {ds : List D} : frzO (.lst ds) = some (.lst ds) := rfl
@[simp] theorem frzO_dK {ds : List (Key × D)} : frzO (.dK ds) = some (.dK ds) := rfl
theorem fLen_q {ds : List D} (e : asQ h d = some ds) : fLen [d] h = .ok (.v (.int ds.length)) h := by unfold fLen; simp [e]
@[simp] theorem fLen_tup {ds : List D} : fLen [.tup ds] h = .ok (.v (.int ds.length)) h := rfl
@[simp] theorem fLen_lst {ds : List D} : fLen [.lst ds] h = .ok (.v (.int ds.length)) h := rfl
theorem fTuple_q {ds : List D} (e : asQ h d = some ds) : fTuple [d] h = .ok (.v (.tup ds)) h := by unfold fTuple; simp [e]
@[simp] theorem fTuple_tup {ds : List D} : fTuple [.tup ds] h = .ok (.v (.tup ds)) h := rfl
@[simp] theorem fTuple_lst {ds : List D} : fTuple [.lst ds] h = .ok (.v (.tup ds)) h := rfl
theorem fList_q {ds : List D} (e : asQ h d = some ds) : fList [d] h = .ok (.n (.lst ds)) h := by unfold fList; simp [e]
@[simp] theorem fList_tup {ds : List D} : fList [.tup ds] h = .ok (.n (.lst ds)) h := rfl
@[simp] theorem fList_lst {ds : List D} : fList [.lst ds] h = .ok (.n (.lst ds)) h := rfl
theorem atI_nat {α : Type} {xs : List α} {k : Nat} {i : Int} (hi : i = (k : Int)) : atI xs i = xs[k]? := by
  subst hi
  unfold atI ixN
  by_cases q : (k : Int) < xs.length
  · simp [q]
  · simp [q]
    omega
theorem fIx_q {ds : List D} {i : Int} {k : Nat} {r : D} (e : asQ h d = some ds) (hi : i = (k : Int)) (hk : ds[k]? = some r) : fIx d (.int i) h = .ok (.v r) h := by
  show (match fIxQ d (.int i) h with | .stuck => _ | z => z) = _
  unfold fIxQ
  simp [e, atI_nat hi, hk]
theorem fIn_q {ds : List D} (e : asQ h y = some ds) (f1 : flatD x = true) (f2 : ds.all flatD = true) : fIn x y h = .ok (.v (.bl (ds.any fun z => eqD z x))) h := by
  show (match fInQ false x y h with | .stuck => _ | z => z) = _
  unfold fInQ
  simp [e, f1]
  rw [if_pos (by simpa using f2)]
theorem fNotIn_q {ds : List D} (e : asQ h y = some ds) (f1 : flatD x = true) (f2 : ds.all flatD = true) : fNotIn x y h = .ok (.v (.bl (!(ds.any fun z => eqD z x)))) h := by
  show (match fInQ true x y h with | .stuck => _ | z => z) = _
  unfold fInQ
  simp [e, f1]
  rw [if_pos (by simpa using f2)]
/-! iteration -/
@[simp] theorem kpOk_none : kpOk none h = True := by simp [kpOk]
@[simp] theorem iSeq_eq {x : ED} : iSeq x τ h = (x τ h).bind fun d h1 => match d with
  | .tup ds => .ok (ds, none) h1
  | .lst ds => .ok (ds, none) h1
  | .ref n => match h1[n]? with
    | some (.lst ds) => .ok (ds, some (n, .lst ds)) h1
    | _ => .stuck
  | _ => .stuck := by
  unfold iSeq
  rfl
open Classical in
@[simp] theorem iR1_eq {xs : EA} : iR1 xs τ h = (xs τ h).bind fun ds h1 => match ds with
  | [.int j] => if R62 j then .ok (rngD 0 j.toNat, none) h1 else .stuck
  | _ => .stuck := by
  unfold iR1
  rfl
open Classical in
@[simp] theorem iR2_eq {xs : EA} : iR2 xs τ h = (xs τ h).bind fun ds h1 => match ds with
  | [.int i, .int j] => if R62 i ∧ R62 j then .ok (rngD i (j - i).toNat, none) h1 else .stuck
  | _ => .stuck := by
  unfold iR2
  rfl
open Classical in
@[simp] theorem iR3_eq {xs : EA} : iR3 xs τ h = (xs τ h).bind fun ds h1 => match ds with
  | [.int i, .int j, .int k] => if k = -1 ∧ R62 i ∧ R62 j then .ok (downD i (i - j).toNat, none) h1 else .stuck
  | _ => .stuck := by
  unfold iR3
  rfl
@[simp] theorem sFor_eq {it : EI} {g : ET} {bd : ST} {cl : List Nat} : sFor it g bd cl τ h = sE it (fun p τ h => forGo p.2 g bd cl τ.b p.1 τ.s h) τ h := rfl
@[simp] theorem eComp_eq {it : EI} {g : ET} {t : EB} {x : ED} {vs : List Nat} : eComp it g t x vs τ h = (it τ h).bind fun p h1 => compGo p.2 g t x τ.b (Z.clr vs τ.s) p.1 h1 [] := rfl
@[simp] theorem sWh_eq {t : EB} {bd : ST} {cl : List Nat} : sWh t bd cl τ h = whGo t bd cl τ.b wMax τ.s h := rfl
end
/-! ### loops -/
/-- one turn's end -/
def Turn (cl : List Nat) (I : Sl → Own → Prop) (Q : SRes → Prop) : SRes → Prop := fun r => match r with
  | .next s h => I (clr cl s) h
  | .cnt s h => I (clr cl s) h
  | .brk s h => Q (.next (clr cl s) h)
  | .ret r h => Q (.ret r h)
  | _ => False
section
variable {cl : List Nat} {I : Sl → Own → Prop} {Q : SRes → Prop} {s : Sl} {h : Own}
@[simp] theorem W_turn_next : W (.next s h) (Turn cl I Q) = I (clr cl s) h := rfl
@[simp] theorem W_turn_cnt : W (.cnt s h) (Turn cl I Q) = I (clr cl s) h := rfl
@[simp] theorem W_turn_brk : W (.brk s h) (Turn cl I Q) = W (.next (clr cl s) h) Q := rfl
@[simp] theorem W_turn_ret {r : R} : W (.ret r h) (Turn cl I Q) = W (.ret r h) Q := rfl
@[simp] theorem W_stuck_turn : W .stuck (Turn cl I Q) = False := rfl
end
/-- a for by an invariant over what is still to come -/
theorem W_for {kp : Kp} {g : ET} {bd : ST} {cl : List Nat} {b : Nat} {Q : SRes → Prop} (I : List D → Sl → Own → Prop) (hk : ∀ ds s h, I ds s h → kpOk kp h) (he : ∀ s h, I [] s h → Q (.next s h))
    (hs : ∀ d ds s h, I (d :: ds) s h → ∃ s1 h1, g d ⟨b, s⟩ h = .next s1 h1 ∧ W (bd ⟨b, s1⟩ h1) (Turn cl (I ds) Q)) : ∀ (ds : List D) (s : Sl) (h : Own), I ds s h → W (forGo kp g bd cl b ds s h) Q
  | [], s, h, i => by
    unfold forGo
    rw [if_pos (hk _ _ _ i)]
    exact he s h i
  | d :: ds, s, h, i => by
    unfold forGo
    rw [if_pos (hk _ _ _ i)]
    obtain ⟨s1, h1, e, w⟩ := hs d ds s h i
    rw [e]
    dsimp only
    unfold W at w
    cases hb : bd ⟨b, s1⟩ h1 with
    | next s2 h2 => rw [hb] at w; exact W_for I hk he hs ds _ _ w
    | cnt s2 h2 => rw [hb] at w; exact W_for I hk he hs ds _ _ w
    | brk s2 h2 => rw [hb] at w; exact w
    | ret r h2 => rw [hb] at w; exact w
    | exc c s2 h2 => rw [hb] at w; exact w.elim
    | stuck => rw [hb] at w; exact w.elim
/-- a while by an invariant and a measure -/
theorem W_wh {t : EB} {bd : ST} {cl : List Nat} {b : Nat} {Q : SRes → Prop} (I : Nat → Sl → Own → Prop)
    (hs : ∀ m s h, I m s h → ∃ k h1, t ⟨b, s⟩ h = .ok k h1 ∧ (k = false → Q (.next s h1)) ∧ (k = true → ∃ m', m = m' + 1 ∧ W (bd ⟨b, s⟩ h1) (Turn cl (fun s h => ∃ m'', m'' ≤ m' ∧ I m'' s h) Q))) : ∀ (n m : Nat) (s : Sl) (h : Own), m < n → I m s h → W (whGo t bd cl b n s h) Q
  | 0, m, s, h, hn, i => absurd hn (Nat.not_lt_zero _)
  | n + 1, m, s, h, hn, i => by
    unfold whGo
    obtain ⟨k, h1, e, ef, et⟩ := hs m s h i
    rw [e]
    cases k with
    | false => exact ef rfl
    | true =>
      obtain ⟨m', rfl, w⟩ := et rfl
      dsimp only
      unfold W at w
      cases hb : bd ⟨b, s⟩ h1 with
      | next s2 h2 => rw [hb] at w; obtain ⟨m'', hm, w⟩ := w; exact W_wh I hs n m'' _ _ (by omega) w
      | cnt s2 h2 => rw [hb] at w; obtain ⟨m'', hm, w⟩ := w; exact W_wh I hs n m'' _ _ (by omega) w
      | brk s2 h2 => rw [hb] at w; exact w
      | ret r h2 => rw [hb] at w; exact w
      | exc c s2 h2 => rw [hb] at w; exact w.elim
      | stuck => rw [hb] at w; exact w.elim
/-- a comprehension without traces -/
theorem comp_pure {α : Type} {kp : Kp} {g : ET} {t : EB} {x : ED} {b : Nat} {s : Sl} {h : Own} (item : α → D) (p : α → Bool) (el : α → D) (hk : kpOk kp h) : ∀ (as : List α) (acc : List D),
    (∀ a ∈ as, ∃ s1, g (item a) ⟨b, s⟩ h = .next s1 h ∧ t ⟨b, s1⟩ h = .ok (p a) h ∧ (p a = true → x ⟨b, s1⟩ h = .ok (el a) h)) → acc.length + as.length ≤ sizeLine →
    compGo kp g t x b s (as.map item) h acc = .ok (.n (.lst (acc ++ (as.filter p).map el))) h
  | [], acc, _, _ => by
    unfold compGo
    simp [hk]
  | a :: as, acc, hs, hl => by
    obtain ⟨s1, e1, e2, e3⟩ := hs a (List.mem_cons_self)
    rw [List.length_cons] at hl
    unfold compGo
    simp only [List.map_cons]
    rw [if_pos hk, e1]
    dsimp only
    rw [e2]
    cases hp : p a with
    | false =>
      dsimp only
      rw [comp_pure item p el hk as acc (fun y hy => hs y (List.mem_cons_of_mem _ hy)) (by omega), List.filter_cons_of_neg (by simp [hp])]
    | true =>
      dsimp only
      rw [e3 hp]
      dsimp only
      rw [if_pos (by omega), comp_pure item p el hk as (acc ++ [el a]) (fun y hy => hs y (List.mem_cons_of_mem _ hy)) (by simp; omega), List.filter_cons_of_pos hp]
      simp
/-! ### the end of a call -/
theorem call_v {G : BD} {ds : List D} {h : Own} {d : D} (nd : nrf d = true) (e : W (G h.length ds h) fun r => ∃ h1, r = .ret (.v d) h1 ∧ h1.take h.length = h) : callB G ds h = .ok (.v d) h := by
  obtain ⟨h1, e, e2⟩ := e
  unfold callB
  rw [e]
  show exitR h.length (.v d) h1 = _
  unfold exitR
  cases d <;> first | (cases nd; done) | (dsimp only; rw [if_pos nd, e2])
theorem call_n {G : BD} {ds : List D} {h : Own} {o : O} (nd : nrfO o = true) (e : W (G h.length ds h) fun r => ∃ h1, r = .ret (.n o) h1 ∧ h1.take h.length = h) : callB G ds h = .ok (.n o) h := by
  obtain ⟨h1, e, e2⟩ := e
  unfold callB
  rw [e]
  show exitR h.length (.n o) h1 = _
  unfold exitR
  dsimp only
  rw [if_pos nd, e2]
theorem call_r {G : BD} {ds : List D} {h : Own} {o : O} (nd : nrfO o = true) (nd2 : notDead o = true) (e : W (G h.length ds h) fun r => ∃ h1 m, r = .ret (.v (.ref m)) h1 ∧ h.length ≤ m ∧ h1[m]? = some o ∧ h1.take h.length = h) : callB G ds h = .ok (.n o) h := by
  obtain ⟨h1, m, e, hm, e2, e3⟩ := e
  unfold callB
  rw [e]
  show exitR h.length (.v (.ref m)) h1 = _
  unfold exitR
  dsimp only
  rw [if_neg (by omega), e2]
  dsimp only
  rw [if_pos ⟨nd, nd2⟩, e3]
end Z
set_option Elab.async false
set_option linter.all false
set_option maxRecDepth 100000
/-! Z17: heaps by places; loops as equations; bits. -/
namespace Z
open PySem PySem.Spec L2
section
variable {h l H : Own} {o : O} {n k b : Nat} {ds : List D} {x : D}
@[simp] theorem hp_get0 : (h ++ l)[List.length h]? = l[0]? := by
  rw [List.getElem?_append_right (Nat.le_refl _), Nat.sub_self]
@[simp] theorem hp_getk : (h ++ l)[List.length h + k]? = l[k]? := by
  rw [List.getElem?_append_right (Nat.le_add_right _ _), Nat.add_sub_cancel_left]
@[simp] theorem hp_set0 : (h ++ l).set h.length o = h ++ l.set 0 o := by
  rw [List.set_append, if_neg (Nat.lt_irrefl _), Nat.sub_self]
@[simp] theorem hp_setk : (h ++ l).set (h.length + k) o = h ++ l.set k o := by
  rw [List.set_append, if_neg (by omega), Nat.add_sub_cancel_left]
theorem hp_getl (hn : n < h.length) : (h ++ l)[n]? = h[n]? := List.getElem?_append_left hn
theorem hp_setl (hn : n < h.length) : (h ++ l).set n o = h.set n o ++ l := by
  rw [List.set_append, if_pos hn]
@[simp] theorem isTy_ref {T : String} : isTy T H (.ref n) = (match H[n]? with
    | some (.lst _) => T == "list"
    | some (.dK _) => T == "dict"
    | _ => false) := rfl
@[simp] theorem isTy_lst {T : String} : isTy T H (.lst ds) = (T == "list") := rfl
@[simp] theorem fAppend_eq : fAppend (.ref n) [x] b H = (match H[n]? with
    | some (.lst ds) => if ds.length < sizeLine then (match putO H b n (.lst (ds ++ [x])) with | some h' => .ok (.v .non) h' | none => .stuck) else .stuck
    | _ => .stuck) := by
  unfold fAppend chL ownL
  cases e : H[n]? with
  | none => simp [e]
  | some o =>
    cases o <;> simp only [e]
    rename_i ds
    by_cases q : ds.length < sizeLine
    · rw [if_pos q, if_pos q]
      try rfl
    · rw [if_neg q, if_neg q]
theorem putO_own (hb : b ≤ n) : putO H b n o = some (H.set n o) := by
  unfold putO
  rw [if_pos (.inl hb)]
theorem putO_nrf (hb : nrfO o = true) : putO H b n o = some (H.set n o) := by
  unfold putO
  rw [if_pos (.inr (.inl hb))]
/-- no ref comes in that was not there -/
theorem putO_sub {o0 : O} (e : H[n]? = some o0) (hb : subR o o0 = true) : putO H b n o = some (H.set n o) := by
  unfold putO
  rw [if_pos (.inr (.inr (by unfold subO; rw [e]; exact hb)))]
@[simp] theorem putO_len : putO H h.length h.length o = some (H.set h.length o) := putO_own (Nat.le_refl _)
@[simp] theorem putO_lenk : putO H h.length (h.length + k) o = some (H.set (h.length + k) o) := putO_own (Nat.le_add_right _ _)
@[simp] theorem asQ_ref' : asQ H (.ref n) = (match H[n]? with
    | some (.lst ds) => some ds
    | _ => none) := rfl
@[simp] theorem asL_ref' : asL H (.ref n) = (match H[n]? with
    | some (.lst ds) => some ds
    | _ => none) := rfl
@[simp] theorem fTuple_ref : fTuple [.ref n] H = (match H[n]? with
    | some (.lst ds) => .ok (.v (.tup ds)) H
    | _ => .stuck) := by
  unfold fTuple asQ asL
  dsimp only
  cases H[n]? with
  | none => rfl
  | some o => cases o <;> rfl
@[simp] theorem fList_ref : fList [.ref n] H = (match H[n]? with
    | some (.lst ds) => .ok (.n (.lst ds)) H
    | _ => .stuck) := by
  unfold fList asQ asL
  dsimp only
  cases H[n]? with
  | none => rfl
  | some o => cases o <;> rfl
@[simp] theorem fLen_ref : fLen [.ref n] H = (match H[n]? with
    | some (.lst ds) => .ok (.v (.int ds.length)) H
    | some (.dK ds) => .ok (.v (.int ds.length)) H
    | some (.lkK ds) => .ok (.v (.int ds.length)) H
    | _ => .stuck) := by
  unfold fLen asQ asL asD
  dsimp only
  cases e : H[n]? with
  | none => simp [e]
  | some o => cases o <;> simp [e]
theorem ixN_nat {n k : Nat} (hlt : k < n) : ixN n (k : Int) = some k := by
  unfold ixN
  rw [if_pos (Int.natCast_nonneg k), if_pos (Int.ofNat_lt.mpr hlt), Int.toNat_natCast]
theorem chL_eq {f : List D → List D → Option (List D × D)} {xs ds' : List D} {r : D} (e : H[n]? = some (.lst ds)) (ef : f ds xs = some (ds', r)) (hp : b ≤ n ∨ nrfO (.lst ds') = true) : chL f (.ref n) xs b H = .ok (.v r) (H.set n (.lst ds')) := by
  unfold chL ownL
  simp only [e, ef]
  unfold putO
  rw [if_pos (hp.imp id .inl)]
open Classical in
theorem fPopAt_eq {i : Int} {k : Nat} {y : D} (e : H[n]? = some (.lst ds)) (hi : i = (k : Int)) (hk : k < 1000000) (hy : ds[k]? = some y) (hp : b ≤ n ∨ nrfO (.lst (ds.eraseIdx k)) = true) :
    fPopAt (.ref n) [.int i] b H = .ok (.v y) (H.set n (.lst (ds.eraseIdx k))) := by
  subst hi
  unfold fPopAt
  refine chL_eq e ?_ hp
  have h1 := ixN_nat (List.getElem?_eq_some_iff.mp hy).1
  have h2 := r63 (Nat.le_of_lt hk)
  generalize (k : Int) = z at h1 h2 ⊢
  show (if R63 z then match ixN ds.length z with
    | some k => match ds[k]? with
      | some y => some (ds.eraseIdx k, y)
      | none => none
    | none => none else none) = _
  rw [if_pos h2, h1]
  dsimp only
  rw [hy]
theorem fPop_eq {y : D} (e : H[n]? = some (.lst (ds ++ [y]))) (hp : b ≤ n ∨ nrfO (.lst ds) = true) :
    fPop (.ref n) [] b H = .ok (.v y) (H.set n (.lst ds)) := by
  unfold fPop chL ownL
  simp only [e]
  have e1 : (ds ++ [y])[(ds ++ [y]).length - 1]? = some y := by simp
  simp only [e1, List.dropLast_concat]
  unfold putO
  rw [if_pos (hp.imp id .inl)]
end
/-! ### loops as equations -/
theorem for_any {α : Type} {g : ET} {bd : ST} {cl : List Nat} {b : Nat} {s : Sl} {h : Own} {rr : R} (item : α → D) (p : α → Bool) : ∀ as : List α,
    (∀ a ∈ as, ∃ s1 s2, g (item a) ⟨b, s⟩ h = .next s1 h ∧ bd ⟨b, s1⟩ h = (if p a = true then .ret rr h else .next s2 h) ∧ clr cl s2 = s) →
    forGo none g bd cl b (as.map item) s h = if as.any p = true then .ret rr h else .next s h
  | [], _ => by
    unfold forGo
    simp
  | a :: as, hs => by
    obtain ⟨s1, s2, e1, e2, e3⟩ := hs a List.mem_cons_self
    unfold forGo
    simp only [List.map_cons]
    rw [if_pos (by simp), e1]
    dsimp only
    rw [e2]
    cases hp : p a with
    | true => simp [hp]
    | false =>
      simp only [Bool.false_eq_true, if_false]
      rw [e3, for_any item p as (fun y hy => hs y (List.mem_cons_of_mem _ hy))]
      simp [hp]
/-- a for that carries a state, its invariant by places -/
theorem for_fold {α σ : Type} {g : ET} {bd : ST} {cl : List Nat} {b : Nat} (item : α → D) (enc : σ → Sl) (eh : σ → Own) (step : σ → α → σ) (Inv : σ → Prop) : ∀ (as : List α) (st : σ),
    (∀ a ∈ as, ∀ st, Inv st → Inv (step st a) ∧ ∃ s1 s2, g (item a) ⟨b, enc st⟩ (eh st) = .next s1 (eh st) ∧ bd ⟨b, s1⟩ (eh st) = .next s2 (eh (step st a)) ∧ clr cl s2 = enc (step st a)) → Inv st →
    Inv (as.foldl step st) ∧ forGo none g bd cl b (as.map item) (enc st) (eh st) = .next (enc (as.foldl step st)) (eh (as.foldl step st))
  | [], st, _, i => by
    unfold forGo
    simp [i]
  | a :: as, st, hs, i => by
    obtain ⟨i2, s1, s2, e1, e2, e3⟩ := hs a List.mem_cons_self st i
    obtain ⟨j1, j2⟩ := for_fold (g := g) (bd := bd) (cl := cl) (b := b) item enc eh step Inv as (step st a) (fun y hy => hs y (List.mem_cons_of_mem _ hy)) i2
    refine ⟨j1, ?_⟩
    unfold forGo
    simp only [List.map_cons]
    rw [if_pos (by simp), e1]
    dsimp only
    rw [e2]
    dsimp only
    rw [e3]
    exact j2
/-- the turns of a range -/
theorem rngD_nat (lo n : Nat) : rngD (lo : Int) n = (List.range' lo n).map fun k : Nat => D.int (k : Int) := by
  unfold rngD
  rw [List.range'_eq_map_range, List.map_map]
  apply List.map_congr_left
  intro i _
  simp
theorem rngD_zero (n : Nat) : rngD 0 n = (List.range n).map fun k : Nat => D.int (k : Int) := by
  unfold rngD
  apply List.map_congr_left
  intro i _
  simp
/-! ### bits -/
theorem bnot2 (a : Int) : Builtin.bitNot (Builtin.bitNot a) = a := by
  unfold Builtin.bitNot
  omega
theorem bor_nat (a b : Nat) : Builtin.bitOr (a : Int) (b : Int) = ((a ||| b : Nat) : Int) := by
  have ha : decide ((0 : Int) ≤ Builtin.bitNot (a : Int)) = false := by unfold Builtin.bitNot; rw [decide_eq_false_iff_not]; omega
  have hb : decide ((0 : Int) ≤ Builtin.bitNot (b : Int)) = false := by unfold Builtin.bitNot; rw [decide_eq_false_iff_not]; omega
  unfold Builtin.bitOr Builtin.bitAnd
  rw [ha, hb]
  dsimp only
  rw [bnot2, bnot2, bnot2, Int.toNat_natCast, Int.toNat_natCast]
/-- a & ~b -/
theorem band_not (a b : Nat) : Builtin.bitAnd (a : Int) (-(b : Int) - 1) = ((a - (a &&& b) : Nat) : Int) := by
  have ha : decide ((0 : Int) ≤ (a : Int)) = true := by rw [decide_eq_true_iff]; omega
  have hb : decide ((0 : Int) ≤ -(b : Int) - 1) = false := by rw [decide_eq_false_iff_not]; omega
  have e : Builtin.bitNot (-(b : Int) - 1) = (b : Int) := by unfold Builtin.bitNot; omega
  unfold Builtin.bitAnd
  rw [ha, hb, e]
  dsimp only
  rw [Int.toNat_natCast, Int.toNat_natCast]
  have : a &&& b ≤ a := Nat.and_le_left
  omega
theorem sub_and_bit (a b i : Nat) : (a - (a &&& b)).testBit i = (a.testBit i && !b.testBit i) := by
  induction i generalizing a b with
  | zero =>
    have h1 := @Nat.and_mod_two_eq_one a b
    have h2 : a &&& b ≤ a := Nat.and_le_left
    simp only [Nat.testBit_zero]
    rw [Bool.eq_iff_iff]
    simp only [decide_eq_true_eq, Bool.and_eq_true, Bool.not_eq_true', decide_eq_false_iff_not]
    omega
  | succ i ih =>
    rw [Nat.testBit_succ, Nat.testBit_succ, Nat.testBit_succ, ← ih (a / 2) (b / 2)]
    congr 1
    have h1 : (a &&& b) / 2 = (a / 2) &&& (b / 2) := Nat.and_div_two
    have h2 : a &&& b ≤ a := Nat.and_le_left
    have h3 : (a / 2) &&& (b / 2) ≤ a / 2 := Nat.and_le_left
    have h4 := @Nat.and_mod_two_eq_one a b
    omega
/-- blocked >> k & 1 -/
theorem shr_bit (m k : Nat) : Builtin.bitAnd ((m : Int) / 2 ^ k) 1 = if m.testBit k then 1 else 0 := by
  have e : ((m : Int) / 2 ^ k) = ((m >>> k : Nat) : Int) := by
    rw [Nat.shiftRight_eq_div_pow]
    norm_cast
  have e1 : Builtin.bitAnd ((m >>> k : Nat) : Int) 1 = ((m >>> k : Nat) : Int) % 2 := PyProof.Rows.bitAnd_m1 _
  rw [e, e1, Nat.testBit, Nat.and_comm]
  have h1 : m >>> k &&& 1 = (m >>> k) % 2 := Nat.and_one_is_mod _
  rw [h1]
  generalize m >>> k = x
  rcases Nat.mod_two_eq_zero_or_one x with z | z
  · rw [z]
    simp
    omega
  · rw [z]
    simp
    omega
end Z
set_option Elab.async false
set_option linter.all false
set_option maxRecDepth 100000
/-! Z18: loops by the number of turns done. -/
namespace Z
open PySem PySem.Spec L2
theorem W_list {α : Type} {g : ET} {bd : ST} {cl : List Nat} {b : Nat} {Q : SRes → Prop} {kp : Kp} (item : α → D) (as : List α) (I : Nat → Sl → Own → Prop) {s : Sl} {h : Own} (i0 : I 0 s h) (hk : ∀ k s h, k ≤ as.length → I k s h → kpOk kp h)
    (hs : ∀ k s h (hk : k < as.length), I k s h → ∃ s1 h1, g (item as[k]) ⟨b, s⟩ h = .next s1 h1 ∧ W (bd ⟨b, s1⟩ h1) (Turn cl (I (k + 1)) Q)) (he : ∀ s h, I as.length s h → Q (.next s h)) :
    W (forGo kp g bd cl b (as.map item) s h) Q := by
  have key : ∀ (r : List α) (k : Nat) (s : Sl) (h : Own), as.drop k = r → k ≤ as.length → I k s h → W (forGo kp g bd cl b (r.map item) s h) Q := by
    intro r
    induction r with
    | nil =>
      intro k s h e hkl i
      have : k = as.length := by
        have := congrArg List.length e
        simp at this
        omega
      subst this
      unfold forGo
      simp only [List.map_nil]
      rw [if_pos (hk _ _ _ hkl i)]
      exact he s h i
    | cons a r ih =>
      intro k s h e hkl i
      have hlt : k < as.length := by
        have := congrArg List.length e
        simp at this
        omega
      have ea : as[k] = a := by
        have := List.drop_eq_getElem_cons hlt
        rw [e] at this
        exact (List.cons.inj this).1.symm
      have er : as.drop (k + 1) = r := by
        have := List.drop_eq_getElem_cons hlt
        rw [e] at this
        exact (List.cons.inj this).2.symm
      obtain ⟨s1, h1, e1, w⟩ := hs k s h hlt i
      rw [ea] at e1
      unfold forGo
      simp only [List.map_cons]
      rw [if_pos (hk _ _ _ hkl i), e1]
      dsimp only
      unfold W at w
      cases hb : bd ⟨b, s1⟩ h1 with
      | next s2 h2 => rw [hb] at w; exact ih (k + 1) _ _ er hlt w
      | cnt s2 h2 => rw [hb] at w; exact ih (k + 1) _ _ er hlt w
      | brk s2 h2 => rw [hb] at w; exact w
      | ret r h2 => rw [hb] at w; exact w
      | exc c s2 h2 => rw [hb] at w; exact w.elim
      | stuck => rw [hb] at w; exact w.elim
  exact key as 0 s h rfl (Nat.zero_le _) i0
theorem W_range' {g : ET} {bd : ST} {cl : List Nat} {b : Nat} {Q : SRes → Prop} (lo n : Nat) (I : Nat → Sl → Own → Prop) {s : Sl} {h : Own} (i0 : I 0 s h)
    (hs : ∀ k s h, k < n → I k s h → ∃ s1 h1, g (.int ((lo + k : Nat) : Int)) ⟨b, s⟩ h = .next s1 h1 ∧ W (bd ⟨b, s1⟩ h1) (Turn cl (I (k + 1)) Q)) (he : ∀ s h, I n s h → Q (.next s h)) :
    W (forGo none g bd cl b (rngD (lo : Int) n) s h) Q := by
  rw [rngD_nat]
  refine W_list (fun k : Nat => D.int (k : Int)) (List.range' lo n) I i0 (fun _ _ _ _ _ => by simp) (fun k s h hk i => ?_) (fun s h i => he s h (by simpa using i))
  have := hs k s h (by simpa using hk) i
  simpa using this
theorem W_range {g : ET} {bd : ST} {cl : List Nat} {b : Nat} {Q : SRes → Prop} (n : Nat) (I : Nat → Sl → Own → Prop) {s : Sl} {h : Own} (i0 : I 0 s h)
    (hs : ∀ k s h, k < n → I k s h → ∃ s1 h1, g (.int (k : Int)) ⟨b, s⟩ h = .next s1 h1 ∧ W (bd ⟨b, s1⟩ h1) (Turn cl (I (k + 1)) Q)) (he : ∀ s h, I n s h → Q (.next s h)) :
    W (forGo none g bd cl b (rngD 0 n) s h) Q :=
  W_range' 0 n I i0 (fun k s h hk i => by simpa using hs k s h hk i) he
/-- a comprehension over a range -/
theorem comp_range {g : ET} {t : EB} {x : ED} {b : Nat} {s : Sl} {h : Own} (p : Nat → Bool) (el : Nat → D) (n : Nat)
    (hs : ∀ k, k < n → ∃ s1, g (.int (k : Int)) ⟨b, s⟩ h = .next s1 h ∧ t ⟨b, s1⟩ h = .ok (p k) h ∧ (p k = true → x ⟨b, s1⟩ h = .ok (el k) h)) (hl : n ≤ sizeLine) :
    compGo none g t x b s (rngD 0 n) h [] = .ok (.n (.lst (((List.range n).filter p).map el))) h := by
  rw [rngD_zero, comp_pure (fun k : Nat => D.int (k : Int)) p el (by simp) (List.range n) [] (fun a ha => hs a (List.mem_range.mp ha)) (by simpa using hl)]
  simp
theorem W_ok {r : SRes} {Q : SRes → Prop} (h : Q r) : W r Q := h
section
variable {b : ST} {k : Nat} {Q : SRes → Prop} {s : Sl} {h : Own} {r : R} {cl : List Nat} {I : Sl → Own → Prop}
@[simp] theorem Th_next : Th b k Q (.next s h) = W (b ⟨k, s⟩ h) Q := rfl
@[simp] theorem Th_ret : Th b k Q (.ret r h) = W (.ret r h) Q := rfl
@[simp] theorem Th_brk : Th b k Q (.brk s h) = W (.brk s h) Q := rfl
@[simp] theorem Th_cnt : Th b k Q (.cnt s h) = W (.cnt s h) Q := rfl
@[simp] theorem Turn_next : Turn cl I Q (.next s h) = I (clr cl s) h := rfl
@[simp] theorem Turn_cnt : Turn cl I Q (.cnt s h) = I (clr cl s) h := rfl
@[simp] theorem Turn_brk : Turn cl I Q (.brk s h) = W (.next (clr cl s) h) Q := rfl
@[simp] theorem Turn_ret : Turn cl I Q (.ret r h) = W (.ret r h) Q := rfl
end
theorem W_ite {c : Prop} [Decidable c] {x y : SRes} {Q : SRes → Prop} : W (if c then x else y) Q = if c then W x Q else W y Q := by
  split <;> rfl
theorem sz (n : Nat) (h : n ≤ 1000000) : n ≤ sizeLine := Nat.le_trans h (by decide)
theorem szl {n : Nat} (h : n ≤ 1000000) : n < sizeLine := Nat.lt_of_le_of_lt h (by decide)
theorem cut_hi {xs : List D} {i : Int} {k : Nat} (e : i = (k : Int)) (h : k ≤ xs.length) : cutD xs none (some i) = xs.take k := by
  subst e
  unfold cutD
  rw [HT.sIx_none, HT.sIx_nat, Nat.min_eq_left h]
  simp
theorem cut_lo {xs : List D} {i : Int} {k : Nat} (e : i = (k : Int)) (h : k ≤ xs.length) : cutD xs (some i) none = xs.drop k := by
  subst e
  unfold cutD
  rw [HT.sIx_none, HT.sIx_nat, Nat.min_eq_left h]
  rw [List.take_of_length_le]
  simp
@[simp] theorem fSl_tup {ds : List D} {lo hi : Option Int} {h : Own} : fSl (.tup ds) lo hi h = .ok (.v (.tup (cutD ds lo hi))) h := rfl
@[simp] theorem fSl_lst {ds : List D} {lo hi : Option Int} {h : Own} : fSl (.lst ds) lo hi h = .ok (.n (.lst (cutD ds lo hi))) h := rfl
@[simp] theorem clr_nil {s : Sl} : clr [] s = s := rfl
@[simp] theorem clr_cons {s : Sl} {i : Nat} {cl : List Nat} : clr (i :: cl) s = clr cl (s.set i none) := rfl
/-- a comprehension by an invariant -/
theorem comp_ind {α : Type} {g : ET} {t : EB} {x : ED} {b : Nat} {s : Sl} (item : α → D) (as : List α) (I : Nat → List D → Own → Prop) (hl : as.length ≤ sizeLine)
    (hs : ∀ k acc h (hk : k < as.length), I k acc h → ∃ s1 h1 h2, g (item as[k]) ⟨b, s⟩ h = .next s1 h1 ∧ ((t ⟨b, s1⟩ h1 = .ok false h2 ∧ I (k + 1) acc h2) ∨ (t ⟨b, s1⟩ h1 = .ok true h2 ∧ ∃ y h3, x ⟨b, s1⟩ h2 = .ok y h3 ∧ I (k + 1) (acc ++ [y]) h3))) {h : Own} (i0 : I 0 [] h) :
    ∃ acc h', compGo none g t x b s (as.map item) h [] = .ok (.n (.lst acc)) h' ∧ I as.length acc h' := by
  have key : ∀ (r : List α) (k : Nat) (acc : List D) (h : Own), as.drop k = r → k ≤ as.length → acc.length ≤ k → I k acc h → ∃ acc' h', compGo none g t x b s (r.map item) h acc = .ok (.n (.lst acc')) h' ∧ I as.length acc' h' := by
    intro r
    induction r with
    | nil =>
      intro k acc h e hkl _ i
      have : k = as.length := by
        have := congrArg List.length e
        simp at this
        omega
      subst this
      refine ⟨acc, h, ?_, i⟩
      unfold compGo
      simp
    | cons a r ih =>
      intro k acc h e hkl hal i
      have hlt : k < as.length := by
        have := congrArg List.length e
        simp at this
        omega
      have ea : as[k] = a := by
        have := List.drop_eq_getElem_cons hlt
        rw [e] at this
        exact (List.cons.inj this).1.symm
      have er : as.drop (k + 1) = r := by
        have := List.drop_eq_getElem_cons hlt
        rw [e] at this
        exact (List.cons.inj this).2.symm
      obtain ⟨s1, h1, h2, e1, w⟩ := hs k acc h hlt i
      rw [ea] at e1
      unfold compGo
      simp only [List.map_cons]
      rw [if_pos (by simp), e1]
      dsimp only
      rcases w with ⟨e2, i2⟩ | ⟨e2, y, h3, e3, i2⟩
      · rw [e2]
        dsimp only
        exact ih (k + 1) acc h2 er hlt (by omega) i2
      · rw [e2]
        dsimp only
        rw [e3]
        dsimp only
        rw [if_pos (by omega)]
        exact ih (k + 1) _ h3 er hlt (by simp; omega) i2
  exact key as 0 [] h rfl (Nat.zero_le _) (Nat.zero_le _) i0
end Z
set_option Elab.async false
set_option linter.all false
set_option maxRecDepth 100000
/-! Z19: raise, try, an instance whose making may raise. -/
namespace Z
open PySem PySem.Spec L2
section
variable {ca : Cn} {X : Cx} {W : WF} {pos : Pos} {e a b c : Expr}
def sRaise (c : Nat) : ST := fun τ h => .exc c τ.s h
theorem ss_raise {c : Nat} (hc : X.calm = true) (tk : Takes X W) (hp : PMk X e (fun _ H Q => Q (.ref (ca.ad c)) none H)) : SS ca X W (.Raise (some e) none pos) (sRaise c) :=
  PS.imp (ps_raise hc tk hp) fun D σ H ⟨μ, F, τ, h, A, p⟩ => p μ F H σ Ext.refl A.rel A.sl
/-- try: x / except one of cs: y -/
def nox : SRes → SRes
  | .exc _ _ _ => .stuck
  | r => r
def sTry (cs : List Nat) (x y : ST) : ST := fun τ h => match x τ h with
  | .exc c s h1 => if c ∈ cs then nox (y ⟨τ.b, s⟩ h1) else .stuck
  | r => r
theorem ss_try {x : Str} {cv : Value} {cs : List Nat} {body suite : List Stmt} {b₀ : Stmt} {np pos' : Pos} {tb ts : ST} (hs : X.stack = X.env :: X.outer) (hf : X.env.frame = some X.env.locals) (hc : Names X x cv)
    (he : ∀ c ∈ cs, PySem.W.exmOne X.K (.ref (ca.ad c)) cv = some true)
    (hb : ∀ (W : WF) (pn : List (Addr × Obj)) (xe : Value → Shared → Prop), Takes (X.tr pn xe) W → SSs ca (X.tr pn xe) W body tb)
    (hsu : ∀ (a : Addr) (pn : List (Addr × Obj)), SSs ca (X.suite a pn) W0 (b₀ :: suite) ts) :
    SS ca X W (.Try body [.ExceptHandler (some (.Name x np)) none (b₀ :: suite) pos'] [] [] pos) (sTry cs tb ts) :=
  PS.imp (ps_try_only (Wout := W0) hs hf hc (fun u s' ⟨_, _, _, _, _, _, _, _, _, _, _, _, _, _, _, _, z⟩ => z.elim) (fun W pn xe tk _ => hb W pn xe tk) (fun a oe cls d pn _ _ => hsu a _)) fun D σ H ⟨μ, F, τ, h, A, p⟩ => by
    refine ⟨μ, F, τ, h, A, ?_⟩
    unfold sTry at p
    cases hx : tb τ h with
    | exc c s h1 =>
      rw [hx] at p
      dsimp only at p
      by_cases hm : c ∈ cs
      · rw [if_pos hm] at p
        intro μ1 F1 H1 σ1 E1 R1 S1
        refine ⟨true, he c hm, fun _ a ha => ⟨μ1, F1, ⟨τ.b, s⟩, h1, ⟨R1, S1, Nat.le_trans A.bl (E1.len A.rel R1)⟩, ?_⟩, fun z => nomatch z⟩
        have p2 := p.step E1
        show PostS ca W0 τ.b μ1 F1 H1 h1 (ts ⟨τ.b, s⟩ h1) D
        cases ht : ts ⟨τ.b, s⟩ h1 with
        | exc c' s' h' => rw [ht] at p2; exact p2.elim
        | _ => rw [ht] at p2; exact p2
      · rw [if_neg hm] at p
        exact p.elim
    | _ => rw [hx] at p; exact p
/-! ### C(..) that may raise -/
def eMkX (c n : Nat) (G : BD) (xs : EA) : EX := fun τ h => (xs τ h).bind fun ds h1 => if ds.length + 1 = n then
  (match G h1.length (.ref h1.length :: ds) (h1 ++ [.ins c []]) with
  | .next _ h3 => match h3[h1.length]? with
    | some (.ins c' fs) => if nrfs fs = true then .ok (.n (.ins c' fs)) (h3.take h1.length) else .stuck
    | _ => .stuck
  | .exc k _ h3 => .exc k (h3.take h1.length)
  | _ => .stuck) else .stuck
section
variable {CX : CXT} {k : Nat} {f C : Addr} {fd : FuncData} {ps : List Str} {sp : Sp} {E : St → XK} {x : Str} {p : Pos} {es : List Expr} {t : TA}
theorem run_makeS {pins : List (Addr × Obj)} {σ : St} {H : Hp} {s : Shared} {Q : VK} {us : List Value} {vs : List V} (M : Mk X.K C f) (F : FnOk X.prog X.w X.K X.mg X.base CX k f fd ps sp) (hr : Room (k + 1) X.A) (hb : Binds X.K fd ps [])
    (hx : PassesAt CX X σ (E σ)) (I : Inv X pins σ H s) (r : Vals vs us)
    (h : ∀ x dx, H x = none → H dx = none → dx ≠ x → sp (.ref x :: vs) (upd (upd H dx (.own x)) x (.ins C dx [])) (fun v H2 => v = .non ∧ Q (.ref x) H2) (E σ)) :
    wpAny (model X.prog X.w) X.A (call (.ref C) us) (EP X pins σ Q) X.xe s := by
  have q0 := h (s.heap.objs.size + 1) s.heap.objs.size (I.hok.fresh (Nat.le_succ _)) (I.hok.fresh (Nat.le_refl _)) (Nat.ne_of_lt (Nat.lt_succ_self _))
  have J := Inv.made (C := C) I
  have rr : Vals (V.ref (s.heap.objs.size + 1) :: vs) (Value.ref (s.heap.objs.size + 1) :: us) := .cons rfl r
  have hl : (Value.ref (s.heap.objs.size + 1) :: us ++ []).length = ps.length := by
    rw [List.append_nil, ← rr.length]
    exact F.len _ _ _ _ q0
  have hbb := hb _ (Value.ref (s.heap.objs.size + 1) :: us) J.kIn hl
  rw [List.append_nil] at hbb
  refine wpAny_call (make_map (f := f) I.kIn M.makes M.init (beq_iff_eq.mp M.fn) (codeAny_mono (F.run _ X.stack _ _ ⟨Value.ref (s.heap.objs.size + 1) :: us, []⟩ (Value.ref (s.heap.objs.size + 1) :: us) _ _ (E σ) (hr.make C us [])
    (J.env0.make C us []) hbb rr q0) fun r s' q => ?_))
  match r, q with
  | .error e, q => exact hx pins _ _ e s' J q
  | .ok (.ret u), q =>
    obtain ⟨v, H', I3, rv, rfl, q3⟩ := J.after q
    exact ⟨rv, V.ref (s.heap.objs.size + 1), H', I3, rfl, q3⟩
  | .ok .next, q => exact q.elim
  | .ok .brk, q => exact q.elim
  | .ok .cont, q => exact q.elim
def tMakeS (C : Addr) (sp : Sp) (E : St → XK) (t : TA) : TE := fun σ H Q => t σ H fun vs H1 => ∀ x dx, H1 x = none → H1 dx = none → dx ≠ x → sp (.ref x :: vs) (upd (upd H1 dx (.own x)) x (.ins C dx [])) (fun v H2 => v = .non ∧ Q (.ref x) H2) (E σ)
theorem pe_makeS (M : Mk X.K C f) (F : FnOk X.prog X.w X.K X.mg X.base CX k f fd ps sp) (hr : Room (k + 1) X.A) (hg : Gl X x) (hm : X.mg x = some (.ref C)) (hb : Binds X.K fd ps []) (hx : ∀ σ, PassesAt CX X σ (E σ))
    (ha : PA X (e :: es) t) (hdb : (x == ("__debug__" : Str)) = false) (he : starEach (e :: es) X.env = (false, eval e X.env) :: starEach es X.env) (hpl : (backTo pos (starEach es X.env)).any (·.1) = false) :
    PE X (.Call (.Name x p) (e :: es) [] pos) (tMakeS C sp E t) :=
  ⟨fun pins s σ H Q I h => wpAny_Call_Name_kw (ld_glob I hg hm (PySem.W.callWith_K (h₀ := X.base) I.ok.mod.kin M.kp (thn (ha.run pos pins s σ H _ I h) fun us s1 ⟨vs, H1, I1, r, q⟩ => ⟨I1.kIn, run_makeS M F hr hb (hx σ) I1 r q⟩) he hpl) hdb)⟩
end
theorem se_mkX {C f : Addr} {cn n : Nat} {fd : FuncData} {ps : List Str} {k : Nat} {G : BD} {x : Str} {p : Pos} {es : List Expr} {xs : EA} (hn : ps.length = n) (hC : ca.ad cn = C) (M : Mk X.K C f) (F : FnOk X.prog X.w X.K X.mg X.base (L2.CX X.prog X.w) k f fd ps (spB ca n G)) (hr : Room (k + 1) X.A)
    (hg : Gl X x) (hm : X.mg x = some (.ref C)) (hb : Binds X.K fd ps []) (tk : Takes X W) (ha : SA ca X W (e :: es) xs) (hdb : (x == ("__debug__" : Str)) = false) (he : starEach (e :: es) X.env = (false, eval e X.env) :: starEach es X.env)
    (hpl : (backTo pos (starEach es X.env)).any (·.1) = false) : SE ca X W (.Call (.Name x p) (e :: es) [] pos) (eMkX cn n G xs) :=
  PE.imp (pe_makeS M F hr hg hm hb (fun σ => passAt tk σ) ha hdb he hpl) fun σ H Q ⟨μ, F, τ, h, A, p⟩ => ⟨μ, F, τ, h, A, p.bind.imp fun ds μ1 F1 H1 h1 E1 R1 q vs Vs => by
    intro x dx hx hdx hne
    have A1 := A.ext E1 R1
    by_cases hn : ds.length + 1 = n
    · rw [if_pos hn] at q
      have hne' : H1 x = none → upd H1 dx (.own x) x = none := fun z => by rw [upd_ne (Ne.symm hne)]; exact z
      have Ea : Ext h1.length μ1 F1 H1 h1 μ1 F1 (upd (upd H1 dx (.own x)) x (.ins C dx [])) h1 := (Ext.refl.upd hdx).upd (hne' hx)
      have Ra : RelH ca μ1 F1 h1 (upd (upd H1 dx (.own x)) x (.ins C dx [])) := (R1.upd hdx).upd (hne' hx)
      have hxm : x ∉ μ1 := fun z => R1.dom x z hx
      have hxF : F1 x = none := by
        cases q : F1 x with
        | none => rfl
        | some w => exact absurd (R1.fz _ _ q) (by rw [hx]; exact fun z => nomatch z)
      have E2 : Ext h1.length μ1 F1 H1 h1 (μ1 ++ [x]) F1 (upd (upd H1 dx (.own x)) x (.ins C dx [])) (h1 ++ [.ins cn []]) := Ea.alloc hx (Nat.le_refl _)
      have R2 : RelH ca (μ1 ++ [x]) F1 (h1 ++ [.ins cn []]) (upd (upd H1 dx (.own x)) x (.ins C dx [])) := Ra.alloc (by rw [upd_same]; simp) hxm hxF ⟨dx, [], by rw [upd_same, hC], rfl, .nil⟩
      have ix : (μ1 ++ [x])[h1.length]? = some x := by rw [← R1.len]; simp
      refine ⟨μ1 ++ [x], F1, h1 ++ [.ins cn []], .ref h1.length :: ds, h1.length, R2, .cons (.ref ix) (E2.vrs Vs), by rw [List.length_cons]; exact hn, by simp, ?_⟩
      cases hG : G h1.length (.ref h1.length :: ds) (h1 ++ [.ins cn []]) with
      | next s h3 =>
        rw [hG] at q
        intro μ3 F3 H3 E3 R3
        have E4 := E2.trans E3
        obtain ⟨Rc, Ec⟩ := cut_ok R1 E4 R3
        have ix3 := E3.ix _ _ ix
        refine ⟨rfl, ?_⟩
        dsimp only at q
        split at q
        · rename_i c' fs e3
          by_cases hf : nrfs fs = true
          · rw [if_pos hf] at q
            exact q μ1 F3 H3 (Ec τ.b A1.bl) Rc (.ref x) ⟨x, rfl, E1.fresh hx, R3.dom x (List.mem_of_getElem? ix3), hxm, R3.sep _ x _ ix3 e3 (fun z => nomatch z), (R3.ob _ x _ ix3 e3).nrf hf⟩
          · rw [if_neg hf] at q; exact q.elim
        · exact q.elim
      | exc k' s h3 =>
        rw [hG] at q
        intro μ3 F3 H3 E3 R3
        obtain ⟨Rc, Ec⟩ := cut_ok R1 (E2.trans E3) R3
        exact q μ1 F3 H3 (Ec τ.b A1.bl) Rc
      | _ => rw [hG] at q; exact q.elim
    · rw [if_neg hn] at q; exact q.elim⟩
end
end Z
set_option Elab.async false
set_option linter.all false
set_option maxRecDepth 100000
/-! Z20: enumerate of a tuple. -/
namespace Z
open PySem PySem.Spec L2
/-- enumerate(v) of one argument, v told by what its iterator is -/
theorem en1_meets {v : Value} {o : Obj} {H : Heap → Prop} (B : Begins v o H) :
    Meets (Builtin.«enumerate.__new__» ⟨[.type "enumerate", v], []⟩) (fun _ R s => H s.heap ∧
      R (.ok (.ret (.ref (s.heap.push o).objs.size))) { s with heap := (s.heap.push o).push { cls := .type "enumerate", data := .fields #[.none, .bool false, .ref s.heap.objs.size, rawInt 0, .none, .none] } }) :=
  .of_wp fun prog w A R s z => by
    obtain ⟨hp, g, d, tk, os⟩ := s
    obtain ⟨z1, z2⟩ := z
    have hsub := sub_enumerate
    have it1 : ∀ {A' : Around} {E : Value → Shared → Prop} {Q : Value → Shared → Prop}, Q (.ref hp.objs.size) ⟨hp.push o, g, d, tk, os⟩ → wpAny (model prog w) A' (pyIter v) Q E ⟨hp, g, d, tk, os⟩ :=
      fun q => B.iter prog w _ _ ⟨hp, g, d, tk, os⟩ _ z1 q
    wp_walk using it1
    refine wpAny_stack_any fun st => wpAny_pure ?_
    split
    · rename_i c _ _ _ _ _
      cases (c == Value.type "enumerate") <;> (wp_walk using it1; exact ⟨_, rfl, z2⟩)
    · wp_walk using it1
      exact ⟨_, rfl, z2⟩
section
variable {prog : Program} {w : World} {A : Around} {E : Value → Shared → Prop} {s : Shared}
theorem en1_call {v : Value} {o : Obj} {H : Heap → Prop} {Q : Value → Shared → Prop} (B : Begins v o H) (h1 : H s.heap)
    (h : ∀ h', IsEnum h' (s.heap.objs.size + 1) s.heap.objs.size 0 .none → h'.get? s.heap.objs.size = some o → (∀ b u, s.heap.get? b = some u → h'.get? b = some u) → Q (.ref (s.heap.objs.size + 1)) { s with heap := h' }) :
    wpAny (model prog w) A (call (.type "enumerate") [v]) Q E s := by
  refine callType_new F.called_enumerate (by decide) (F.typeCall_enumerate_1 _) (F.newCall_enumerate_1 _) (fun obj => F.args_object_init_2 obj _) F.entry_enumerate_new (en1_meets B) ⟨h1, ?_⟩
  have sz : (s.heap.push o).objs.size = s.heap.objs.size + 1 := Heap.size_push ..
  have e0 : ((s.heap.push o).push { cls := .type "enumerate", data := .fields #[.none, .bool false, .ref s.heap.objs.size, rawInt 0, .none, .none] }).get? (s.heap.push o).objs.size = some { cls := .type "enumerate", data := .fields #[.none, .bool false, .ref s.heap.objs.size, rawInt 0, .none, .none] } := Heap.get?_push_size _ rfl
  show _ ∧ _
  rw [sz] at e0 ⊢
  exact ⟨⟨_, e0, rfl⟩, h _ e0 (Heap.get?_push_of_some _ (Heap.get?_push_size _ B.free)) fun b u x => Heap.get?_push_of_some _ (Heap.get?_push_of_some _ x)⟩
end
/-- the tuple at a, each item in a new pair -/
def IteT (K : PySem.W.Frag) (a : Addr) : It :=
  ⟨fun i H => ∃ (xs : List V) (x : V), SqT K H a xs ∧ xs[i]? = some x, fun i H v H' => ∃ T x, v = .ref T ∧ H T = none ∧ H' = upd H T (.tup [.int (i : Nat), x]) ∧ ∀ xs, SqT K H a xs → xs[i]? = some x, fun i H => ∃ xs : List V, SqT K H a xs ∧ xs.length ≤ i⟩
theorem enT_end {prog : Program} {w : World} {A : Around} {E : Value → Shared → Prop} {s : Shared} {e it l : Addr} {i : Nat} {items : Array Value} {old : Value} {Q : Option Value → Shared → Prop} (hh : A.handled = none)
    (he : IsEnum s.heap e it i old) (hit : s.heap.IsTupleIter it l i) (hl : s.heap.IsTuple l items) (hx : items[i]? = none) (hQ : ∀ h', Heap.ExtBut it s.heap h' → Q none { s with heap := h' }) : wpAny (model prog w) A (pyNext (.ref e)) Q E s := by
  have T : s.TypeIs (.ref e) "enumerate" := ⟨_, he, rfl⟩
  unfold pyNext
  refine wpAny_bind (wpAny_attempt (wpAny_callSpecial?_slot (name := Str.ofString "__next__") T F.slot_enumerate_next (wpAny_call_entry F.slot_enumerate_next T F.entry_enumerate_next ?_ (F.args_enumerate_next_1 _))))
  show wpAny _ _ (field (.ref e) 2 >>= _) _ _ _
  refine wpAny_bind (wpAny_field he rfl (x := .ref it) rfl (wpAny_bind (wpAny_nextOf_tuple_end hh hit hl hx fun h' x ex ⟨o, ho, hc⟩ => ?_)))
  exact wpAny_bind (wpAny_isInstance (T := "StopIteration") (b := true) ⟨o, ho, hc⟩ isSubtype_stop (wpAny_pure (hQ _ ex)))
theorem turn_enT {P : Program} {w : World} {K : PySem.W.Frag} {elts : List Expr} {kk : Nat} {tpos : Pos} (a e it : Addr) :
    L2.Turn P w K (.Tuple elts kk tpos) (IteT K a) [e, it] e (fun i h => (∃ old, IsEnum h e it ((i : Nat) : Int) old) ∧ h.IsTupleIter it a i ∧ e ≠ it) where
  mem := by simp
  obj := fun i h st b hb => by
    obtain ⟨⟨old, he⟩, ⟨o, ho, hc, hd⟩, _⟩ := st
    have e' : b = e ∨ b = it := by simpa using hb
    rcases e' with rfl | rfl
    · exact ⟨_, he, fun v q => nomatch q⟩
    · exact ⟨o, ho, fun v q => by rw [hd] at q; cases q⟩
  keep := fun i h h' st k => let ⟨⟨old, he⟩, hi, hne⟩ := st; ⟨⟨old, k e (by simp) _ he⟩, hi.at fun o q => k it (by simp) o q, hne⟩
  item := by
    intro X hP hw hK hc i pins s σ H E I hf st hg
    subst hP hw hK
    obtain ⟨⟨old, he⟩, hit, hne⟩ := st
    obtain ⟨xs, x, hq, hx⟩ := hg
    obtain ⟨its, rv, p, hz⟩ := I.tuple hq
    obtain ⟨u, hu, ru⟩ := rv.get hx
    have hel : e < s.heap.objs.size := Heap.lt_size he
    have hil : it < s.heap.objs.size := by obtain ⟨_, q, _⟩ := hit; exact Heap.lt_size q
    have hai : a ≠ it := by
      rintro rfl
      obtain ⟨o1, g1, c1, _⟩ := hit
      obtain ⟨o2, g2, c2, _⟩ := p
      rw [g1] at g2
      cases g2
      rw [c1] at c2
      injection c2 with z
      exact absurd z (by decide)
    have hae : e ≠ a := by
      rintro rfl
      obtain ⟨o2, g2, c2, _⟩ := p
      rw [he] at g2
      cases g2
      injection c2 with z
      exact absurd z (by decide)
    have D := Draws.tuple (prog := X.prog) (w := X.w) (A := X.A.in1) (I.ok.hd hc) it a hai its.toArray
    refine wpAny_pyNext_enum_itemC D he ⟨hit, p⟩ (by simpa using (List.getElem?_eq_some_iff.mp hu).1) hne (by simp [hne, hae]) fun y h' tk hy ho hst' hT hsz hk => ?_
    have hyu : y = u := by simpa [hu] using hy.symm
    subst hyu
    refine ⟨_, rfl, wpAny_letOwnedTupleGo_enum (s := { s with heap := h', toks := tk + 1 }) ho fun h'' he' sb => ?_⟩
    have hT2 : h''.get? s.heap.objs.size = some { cls := .type "tuple", data := .seq #[.int i tk, y] } := (sb.2 _ (Nat.ne_of_gt hel)).trans hT
    have new : ObjOk X.prog X.w (upd H s.heap.objs.size (.tup [.int (i : Nat), x])) h'' s.heap.objs.size (.tup [.int (i : Nat), x]) :=
      ⟨by show 2 ≤ sizeLine; decide, [.int i tk, y], .cons ⟨_, rfl⟩ (.cons ru .nil), ⟨_, hT2, rfl, _, rfl⟩⟩
    have I1 : Inv X pins σ (upd H s.heap.objs.size (.tup [.int (i : Nat), x])) { s with heap := h'', toks := tk + 1 } :=
      I.turnedNew (ch := [e, it]) (fun b ob hb q => (sb.2 b (fun z => hb (by simp [z]))).trans (hk b ob (fun z => hb (by simp [z])) (fun z => hb (by simp [z])) q)) hf (Nat.le_refl _) new
    refine ⟨.ref s.heap.objs.size, _, I1, rfl, ⟨_, x, rfl, I.hok.fresh (Nat.le_refl _), rfl, fun ys hy => by rw [I.tuple_inj hy hq]; exact hx⟩, ⟨⟨y, ?_⟩, hst'.1.at fun o q => (sb.2 it (Ne.symm hne)).trans q, hne⟩, fun b hb => ?_⟩
    · rw [show ((i + 1 : Nat) : Int) = (i : Int) + 1 by omega]; exact he'
    · have e' : b = e ∨ b = it := by simpa using hb
      have hb' : b < s.heap.objs.size := by rcases e' with rfl | rfl <;> assumption
      rw [upd_ne (Nat.ne_of_lt hb')]
      exact (hf b hb).1
  done := by
    intro X hP hw hK hc i pins s σ H E I hf st hg
    subst hP hw hK
    obtain ⟨⟨old, he⟩, hit, hne⟩ := st
    obtain ⟨xs, hq, hx⟩ := hg
    obtain ⟨its, rv, p, hz⟩ := I.tuple hq
    obtain ⟨f0, f1, f2, f3, f4, f5⟩ := hf it (by simp)
    have hl := rv.length
    exact enT_end (I.ok.hd hc) he hit p (by simp; omega) fun h' eb => ⟨rfl, I.turned (t' := s.toks) (fun b o hb q => eb b o hb q) f0 f1 f3 f4 f5⟩
  self := fun A i s Q E st h => let ⟨⟨_, he⟩, _⟩ := st; wpAny_pyIter_enum he h
def iEnumA (K : PySem.W.Frag) (ta : TA) : TI := fun σ H R => ta σ H fun vs H1 => ∃ a xs, vs = [.ref a] ∧ ((SqL K H1 a xs ∧ R (Ite K a) H1) ∨ (SqT K H1 a xs ∧ R (IteT K a) H1))
theorem pi_enumA {X : Cx} {e : Expr} {ta : TA} {p pos tpos : Pos} {elts : List Expr} {kk : Nat} (hg : Gl X "enumerate") (hm : X.mg "enumerate" = none) (ha : PA X [e] ta) (hs : starEach [e] X.env = [(false, eval e X.env)] := by rfl) :
    PI X (.Tuple elts kk tpos) (.Call (.Name "enumerate" p) [e] [] pos) (iEnumA X.K ta) := by
  refine ⟨fun pins s σ H R I h => ?_⟩
  refine PyProof.Rows.Call_ (ld_blt I hg hm PyProof.Rows.boot_enumerate (PyProof.Rows.callWith_type1 (thn (ha.run pos pins s σ H _ I h) fun us s1 ⟨vs, H1, I1, r1, a, xs, ev, q⟩ => ?_) hs rfl))
  subst ev
  obtain ⟨u, rfl, ru⟩ : ∃ u, us = [u] ∧ RelV (.ref a) u := by
    cases r1 with
    | cons r rr => cases rr; exact ⟨_, rfl, r⟩
  cases ru
  have fpn : ∀ {h' : Heap}, (∀ b u, s1.heap.get? b = some u → h'.get? b = some u) → ∀ b ∈ [s1.heap.objs.size + 1, s1.heap.objs.size], FpOk X pins H1 b := fun hk b hb => by
    have hle : s1.heap.objs.size ≤ b := by
      rcases List.mem_cons.mp hb with rfl | hb
      · exact Nat.le_add_right _ _
      · rw [List.mem_singleton.mp hb]; exact Nat.le_refl _
    exact I1.fpOk hle (I1.hok.fresh hle)
  rcases q with ⟨hq, q⟩ | ⟨hq, q⟩
  · obtain ⟨its, rv, pl, hz⟩ := I1.list hq
    refine en1_call (begins_list a its.toArray) pl.isList fun h' he hit hk => wpAny_pyIter_enum he ?_
    have I2 : Inv X pins σ H1 { s1 with heap := h' } := I1.kept (t' := s1.toks) hk
    exact ⟨s1.heap.objs.size + 1, [s1.heap.objs.size + 1, s1.heap.objs.size], _, _, H1, rfl, I2, turn_enum a (s1.heap.objs.size + 1) s1.heap.objs.size, ⟨⟨.none, he⟩, ⟨_, hit, rfl, rfl⟩, Nat.succ_ne_self _⟩, fpn hk, q⟩
  · obtain ⟨its, rv, pl, hz⟩ := I1.tuple hq
    refine en1_call (begins_tuple a its.toArray) pl fun h' he hit hk => wpAny_pyIter_enum he ?_
    have I2 : Inv X pins σ H1 { s1 with heap := h' } := I1.kept (t' := s1.toks) hk
    exact ⟨s1.heap.objs.size + 1, [s1.heap.objs.size + 1, s1.heap.objs.size], _, _, H1, rfl, I2, turn_enT a (s1.heap.objs.size + 1) s1.heap.objs.size, ⟨⟨.none, he⟩, ⟨_, hit, rfl, rfl⟩, Nat.succ_ne_self _⟩, fpn hk, q⟩
section
variable {ca : Cn} {X : Cx} {W : WF} {pos : Pos} {e a b c : Expr}
/-- enumerate(list or tuple) -/
def iEnA (xs : EA) : EI := fun τ h => (xs τ h).bind fun ds h1 => match ds with
  | [.lst ds] => .ok (enD ds, none) h1
  | [.tup ds] => .ok (enD ds, none) h1
  | [.ref n] => match h1[n]? with
    | some (.lst ds) => .ok (enD ds, some (n, .lst ds)) h1
    | _ => .stuck
  | _ => .stuck
theorem iteT_ok {K : PySem.W.Frag} {ds : List D} {kp : Kp} {a : Addr} {vs : List V} {μ : List Addr} {F H : Hp} {h : Own} (q : F a = some (.tup vs)) (r : VRs ca μ F vs ds) : ItOk ca (enD ds) kp (IteT K a) μ F H h := by
  intro b μ2 F2 h2 H2 E R hk i
  have q2 : H2 a = some (.tup vs) := R.fz _ _ (E.fz _ _ q)
  have r2 := E.vrs r
  have hl := r.length
  rw [enD_len]
  refine ⟨fun hi => ⟨⟨vs, vs[i]'(by omega), SqT.of q2, by rw [List.getElem?_eq_getElem]⟩, fun x H3 y => ?_⟩, fun hi => ⟨vs, SqT.of q2, by omega⟩⟩
  obtain ⟨T, x0, rfl, hT, rfl, y⟩ := y
  obtain ⟨d, e1, e2⟩ := r2.getV (y vs (SqT.of q2))
  obtain ⟨_, R3⟩ := fzNew (b := 0) R hT (.tup [.int (i : Nat), x0])
  exact ⟨_, _, enD_get e1, fun b => (fzNew R hT _).1, R3, .tup upd_same (.cons (.int _) (.cons ((fzNew (b := 0) R hT _).1.vr e2) .nil))⟩
theorem si_enA {tg : Expr} {xs : EA} (h : PI X tg e (iEnumA X.K (rdA ca W xs))) : SI ca X W tg e (iEnA xs) := PI.imp h fun σ H R ⟨μ, F, τ, h, A, p⟩ => ⟨μ, F, τ, h, A, p.bind.imp fun ds μ1 F1 H1 h1 E1 R1 q vs Vs => by
  split at q
  · obtain ⟨v, rfl, Vr⟩ := Vs.one
    cases Vr with
    | @lst a vs ds qt r => exact ⟨a, vs, rfl, .inl ⟨SqL.of (R1.fz _ _ qt), q.ok R1 (fun n o z => by cases z) _ (ite_ok fun b μ2 F2 h2 H2 E R hk => ⟨vs, R.fz _ _ (E.fz _ _ qt), E.vrs r⟩)⟩⟩
  · obtain ⟨v, rfl, Vr⟩ := Vs.one
    cases Vr with
    | @tup a vs ds qt r => exact ⟨a, vs, rfl, .inr ⟨SqT.of (R1.fz _ _ qt), q.ok R1 (fun n o z => by cases z) _ (iteT_ok qt r)⟩⟩
  · rename_i n
    obtain ⟨v, rfl, Vr⟩ := Vs.one
    cases Vr with
    | @ref a n en =>
      split at q
      · rename_i ds e0
        obtain ⟨vs, q1, r1⟩ := R1.ob n _ _ en e0
        exact ⟨a, vs, rfl, .inl ⟨SqL.of q1, q.ok R1 (fun m o z => by cases z; exact e0) _ (ite_ok fun b μ2 F2 h2 H2 E R hk => R.ob n a _ (E.ix n a en) (hk n _ rfl))⟩⟩
      · exact q.elim
  · exact q.elim⟩
end
end Z
set_option Elab.async false
set_option linter.all false
set_option maxRecDepth 100000
/-! Z21: sorted(set(ints)). -/
namespace Z
open PySem PySem.Spec L2 PyProof.Rows
/-- a set as it is made -/
abbrev newSet (w : World) : Obj := { cls := .type "set", dict := none, data := .set #[] 0 (.fresh 0 0 (!w.params.followText "set-order")) }
section
variable {P : Program} {w : World} {A : Around} {E : Value → Shared → Prop} {s : Shared}
set_option maxHeartbeats 3200000 in
theorem set_listI {l : Addr} {items : Array Value} (ns : List Int) {Q : Value → Shared → Prop} (hh : A.handled = none) (hl : s.heap.IsList l items) (hit : IntsAre items.toList ns) (hb : ns.length + 1 < scanBound)
    (h : ∀ (h' : Heap) (tk c : Nat), SetR w h' s.heap.objs.size (fun j => decide (j ∈ ns)) c → c ≤ ns.length → (∀ b o, s.heap.get? b = some o → h'.get? b = some o) → Q (.ref s.heap.objs.size) { s with heap := h', toks := tk }) :
    wpAny (model P w) A (call (.type "set") [.ref l]) Q E s := by
  have hisz : items.size = ns.length := by rw [← Array.length_toList]; exact IntsAre.length hit
  obtain ⟨c, tl, hmro⟩ := F.called_set.mro
  have hmade := F.called_set.made
  have hsub := F.called_set.sub
  refine wpAny_call (codeAny_of_tree ?_)
  show wpAny _ _ (callAny (.type "set") _) _ _ _
  refine wpAny_pure ⟨Code.quiet_builtin _ (by decide +kernel), codeAny_builtin F.entry_type_call ?_⟩
  rw [Around.under_plain (weight_type_call_type "set" [.ref l] []) rfl]
  have h1 := F.called_set.notType
  have h2 := F.called_set.canCreate
  have hct := F.typeCall_set_1 (.ref l)
  repeat (any_goals (first | assumption | wp_step))
  refine codeAny_mono (code_set_led1 (.ref l) (E := E) (Q₁ := fun obj s₁ => obj = .ref s.heap.objs.size ∧ s₁ = { s with heap := s.heap.push (newSet w) }) ⟨rfl, rfl⟩) fun r s₁ hr => ?_
  match r, hr with
  | .error e, hr => exact hr
  | .ok .next, hr => exact hr.elim
  | .ok .brk, hr => exact hr.elim
  | .ok .cont, hr => exact hr.elim
  | .ok (.ret obj), hr =>
    obtain ⟨rfl, rfl⟩ := hr
    have hS : (s.heap.push (newSet w)).get? s.heap.objs.size = some (newSet w) := Heap.get?_push_size _ rfl
    have hT : Shared.TypeIs { s with heap := s.heap.push (newSet w) } (.ref s.heap.objs.size) "set" := ⟨_, hS, rfl⟩
    have hli := F.called_set.init.lookup
    have hbi := F.called_set.init.bind (.ref s.heap.objs.size)
    repeat (any_goals (first | assumption | wp_step))
    refine codeAny_mono (codeAny_call_builtin (R := wants (fun r s₂ => r = .none ∧ ∃ h' tk c, s₂ = { s with heap := h', toks := tk } ∧ SetR w h' s.heap.objs.size (fun j => decide (j ∈ ns)) c ∧ c ≤ ns.length ∧
        (∀ b o, s.heap.get? b = some o → h'.get? b = some o)) E) F.called_set.init.plain F.entry_set_init (check_set_init_1 hT ?_)) fun r₂ s₂ hr₂ => ?_
    · obtain ⟨⟨ocls, odict, odata, oslots⟩, hol, hcl, nl, hdl⟩ := hl
      simp only at hcl hdl
      subst hcl hdl
      have hol' : (s.heap.push (newSet w)).get? l = some { cls := .type "list", dict := odict, data := .seq items nl, slots := oslots } := Heap.get?_push_of_some _ hol
      have hl1 : (s.heap.push (newSet w)).IsList l items := ⟨_, hol', rfl, nl, rfl⟩
      have hsls := F.sub_list_set
      have hslf := F.sub_list_frozenset
      have hne : (Value.type "list" == Value.type "dict") = false := by decide
      unfold Builtin.«set.__init__» noKeywords Builtin.Frozenset.updateFrom
      generalize hPI : pyIter = PI
      wp_walk
      subst hPI
      refine wpAny_pyIter_list hl1 (wpAny_bind (wpAny_runValue ?_))
      have hlS : l < s.heap.objs.size := Heap.lt_size hol
      have hz1 : (s.heap.push (newSet w)).objs.size = s.heap.objs.size + 1 := Heap.size_push ..
      have hneI : l ≠ (s.heap.push (newSet w)).objs.size := by rw [hz1]; exact Nat.ne_of_lt (Nat.lt_succ_of_lt hlS)
      have hSf : s.heap.objs.size ∉ [(s.heap.push (newSet w)).objs.size, l] := by
        rw [hz1]
        intro z
        rcases List.mem_cons.mp z with z | z
        · exact absurd z (Nat.ne_of_lt (Nat.lt_succ_self _))
        · rw [List.mem_singleton] at z
          exact absurd z (Nat.ne_of_gt hlS)
      have hval : ∀ (i : Nat) (v : Value), items[i]? = some v → ∃ k t, ns[i]? = some k ∧ v = .int k t := fun i v hv => by
        have hi : i < ns.length := by rw [← hisz]; exact (Array.getElem?_eq_some_iff.mp hv).1
        obtain ⟨t, e⟩ := PyProof.Rows.IntsAre.int_at hit i v (by rw [Array.getElem?_toList]; exact hv)
        exact ⟨ns[i], t, List.getElem?_eq_getElem hi, by rw [e, List.getD_eq_getElem?_getD, List.getElem?_eq_getElem hi] <;> rfl⟩
      refine set_update_ints ((Walks.list (show A.in1.in1.in1.handled = none by simp [hh]) _ l hneI items).toS) s.heap.objs.size
        hSf ns hisz hb hval (items.size - 0) 0 _ (by omega) (Nat.zero_le _) ⟨⟨_, Heap.get?_push_size _ rfl, rfl, rfl⟩, (hl1.push _)⟩ ⟨0, Nat.le_refl 0, setR_new_at (Heap.get?_push_of_some _ hS)⟩ ?_
      rintro ⟨h', g2, d', tk', os'⟩ c' hm hc' hS'
      have eg : g2 = s.gens := hm.gens
      have ed : d' = s.drawn := hm.drawn
      have eo : os' = s.os := hm.os
      subst eg ed eo
      show wpAny _ _ _ _ _ _
      refine wpAny_pure ?_
      show wpAny _ _ (ret Value.none) _ _ _
      rw [hisz] at hc'
      refine wpAny_pure ⟨rfl, h', tk', c', rfl, hS', hc', fun b o e => ?_⟩
      have hb0 : b < s.heap.objs.size := Heap.lt_size e
      refine hm.heap b o (fun z => ?_) (Heap.get?_push_of_some _ (Heap.get?_push_of_some _ e))
      rw [hz1] at z
      rcases List.mem_cons.mp z with z | z
      · exact Nat.ne_of_lt hb0 z
      · exact Nat.ne_of_lt (Nat.lt_succ_of_lt hb0) (List.mem_singleton.mp z)
    · match r₂, hr₂ with
      | .error e, hr₂ => exact hr₂
      | .ok .next, hr₂ => exact hr₂.elim
      | .ok .brk, hr₂ => exact hr₂.elim
      | .ok .cont, hr₂ => exact hr₂.elim
      | .ok (.ret r), hr₂ =>
        obtain ⟨rfl, h', tk, c', rfl, hS', hc', hk'⟩ := hr₂
        repeat (any_goals (first | assumption | wp_step))
        exact h _ _ _ hS' hc' hk'
end
def rSetI (K : PySem.W.Frag) (w : World) : List V → Hp → VK → Prop := fun xs H Q => ∃ (l : Addr) (ns : List Int), xs = [.ref l] ∧ (SqL K H l (ns.map V.int) ∨ SqT K H l (ns.map V.int)) ∧ ns.length < 1000 ∧
  ∀ (p : Addr) (c : Nat), c ≤ ns.length → H p = none → Q (.ref p) (upd H p (SetO w p (fun j => decide (j ∈ ns)) c))
theorem intsAre_of {ns : List Int} : ∀ {us : List Value}, Vals (ns.map V.int) us → IntsAre us ns := by
  induction ns with
  | nil => intro us r; cases r; exact .nil
  | cons n ns ih =>
    intro us r
    rw [List.map_cons] at r
    cases r with
    | cons ru rr =>
      obtain ⟨t, rfl⟩ := ru
      exact .cons _ _ (ih rr)
theorem cr_setI {X : Cx} (hc : X.calm = true) : CallR X (.type "set") (rSetI X.K X.w) := by
  intro pins s σ H vs us Q I r h
  obtain ⟨l, ns, rfl, hq, hlen, q⟩ := h
  rw [Vals.ref1 r]
  have done : ∀ (h' : Heap) (tk c : Nat), SetR X.w h' s.heap.objs.size (fun j => decide (j ∈ ns)) c → c ≤ ns.length → (∀ b o, s.heap.get? b = some o → h'.get? b = some o) → EP X pins σ Q (.ref s.heap.objs.size) { s with heap := h', toks := tk } := fun h' tk c R hcl k =>
    ⟨.ref _, upd H s.heap.objs.size (SetO X.w s.heap.objs.size (fun j => decide (j ∈ ns)) c), I.laid (t' := tk) k (Nat.le_refl _) (setO_new R), rfl, q _ c hcl (I.hok.fresh (Nat.le_refl _))⟩
  have hb : ns.length + 1 < scanBound := Nat.lt_of_lt_of_le (show ns.length + 1 < 1001 by omega) (by decide)
  rcases hq with hq | hq
  · obtain ⟨its, rv, pl, hz⟩ := I.list hq
    exact set_listI ns (I.ok.hd hc) pl.isList (by simpa using intsAre_of rv) hb done
  · obtain ⟨its, rv, pl, hz⟩ := I.tuple hq
    exact call_set_tupI ns (I.ok.hd hc) pl (by simpa using intsAre_of rv) hb done
/-- the different ones, rising -/
def ins1 (n : Int) : List Int → List Int
  | [] => [n]
  | m :: ms => if n < m then n :: m :: ms else if n = m then m :: ms else m :: ins1 n ms
def sset (ns : List Int) : List Int := ns.foldr ins1 []
theorem mem_ins1 {n k : Int} : ∀ {ms : List Int}, k ∈ ins1 n ms ↔ k = n ∨ k ∈ ms
  | [] => by simp [ins1]
  | m :: ms => by
    unfold ins1
    split
    · simp
    · split
      · rename_i h1 h2
        subst h2
        simp
      · simp only [List.mem_cons, mem_ins1 (ms := ms)]
        constructor <;> intro h <;> (rcases h with h | h | h <;> simp [h])
theorem ins1_sorted {n : Int} : ∀ {ms : List Int}, ms.Pairwise (· < ·) → (ins1 n ms).Pairwise (· < ·)
  | [], _ => by simp [ins1]
  | m :: ms, h => by
    obtain ⟨h1, h2⟩ := List.pairwise_cons.mp h
    unfold ins1
    split
    · rename_i hn
      refine List.pairwise_cons.mpr ⟨fun y hy => ?_, h⟩
      rcases List.mem_cons.mp hy with rfl | hy
      · exact hn
      · exact Int.lt_trans hn (h1 y hy)
    · split
      · exact h
      · rename_i g1 g2
        refine List.pairwise_cons.mpr ⟨fun y hy => ?_, ins1_sorted h2⟩
        rcases mem_ins1.mp hy with rfl | hy
        · omega
        · exact h1 y hy
theorem mem_sset {k : Int} {ns : List Int} : k ∈ sset ns ↔ k ∈ ns := by
  induction ns with
  | nil => simp [sset]
  | cons n ns ih =>
    show k ∈ ins1 n (sset ns) ↔ _
    rw [mem_ins1, ih, List.mem_cons]
theorem sset_sorted (ns : List Int) : (sset ns).Pairwise (· < ·) := by
  induction ns with
  | nil => simp [sset]
  | cons n ns ih => exact ins1_sorted ih
theorem asc_uniq : ∀ {as bs : List Int}, as.Pairwise (· < ·) → bs.Pairwise (· < ·) → (∀ k, k ∈ as ↔ k ∈ bs) → as = bs
  | [], [], _, _, _ => rfl
  | [], b :: bs, _, _, h => by have := (h b).mpr List.mem_cons_self; cases this
  | a :: as, [], _, _, h => by have := (h a).mp List.mem_cons_self; cases this
  | a :: as, b :: bs, ha, hb, h => by
    obtain ⟨a1, a2⟩ := List.pairwise_cons.mp ha
    obtain ⟨b1, b2⟩ := List.pairwise_cons.mp hb
    have e : a = b := by
      rcases List.mem_cons.mp ((h a).mp List.mem_cons_self) with z | z
      · exact z
      · rcases List.mem_cons.mp ((h b).mpr List.mem_cons_self) with y | y
        · exact y.symm
        · have := b1 a z
          have := a1 b y
          omega
    subst e
    congr 1
    refine asc_uniq a2 b2 fun k => ⟨fun hk => ?_, fun hk => ?_⟩
    · rcases List.mem_cons.mp ((h k).mp (List.mem_cons_of_mem _ hk)) with rfl | z
      · have := a1 k hk; omega
      · exact z
    · rcases List.mem_cons.mp ((h k).mpr (List.mem_cons_of_mem _ hk)) with rfl | z
      · have := b1 k hk; omega
      · exact z
section
variable {ca : Cn} {X : Cx} {W : WF} {pos : Pos} {e a b c : Expr}
/-- sorted(set(x)) -/
def fSSet : FA := fun xs h => match xs with
  | [d] => match asQ h d with
    | some ds => match asI ds with
      | some ns => if ns.length < 64 then .ok (.n (.lst ((sset ns).map .int))) h else .stuck
      | none => .stuck
    | none => .stuck
  | _ => .stuck
def rSSet (K : PySem.W.Frag) (w : World) : List V → Hp → VK → Prop := fun xs H Q => rSetI K w xs H fun u H2 => rSortedSet w [u] H2 Q
theorem lk_sset {K : PySem.W.Frag} {w : World} : LkA ca fSSet (rSSet K w) := fun b μ F H h Wx vs ds Q R Vs _ p => by
  unfold fSSet at p
  split at p
  · obtain ⟨v, rfl, Vr⟩ := Vs.one
    split at p
    · rename_i ds e1
      obtain ⟨a, vs, rfl, q, r⟩ := asQ_ok R Vr e1
      split at p
      · rename_i ns e2
        obtain rfl := asI_eq e2
        obtain rfl := r.ints
        by_cases hl : ns.length < 64
        · rw [if_pos hl] at p
          refine ⟨a, ns, rfl, SqQ q, by omega, fun p0 c hc hp0 => ⟨p0, _, c, rfl, upd_same, by omega, fun ms p1 hs hm _ hp1 => ?_⟩⟩
          have e : ms = sset ns := asc_uniq hs (sset_sorted ns) fun k => by rw [hm k, mem_sset]; simp
          subst e
          have E0 : Ext b μ F H h μ F (upd H p0 (SetO w p0 (fun j => decide (j ∈ ns)) c)) h := Ext.refl.upd hp0
          have R0 : RelH ca μ F h (upd H p0 (SetO w p0 (fun j => decide (j ∈ ns)) c)) := R.upd hp0
          obtain ⟨e1, R1, w1⟩ := neNew (b := b) R0 hp1 (.lst ((sset ns).map V.int)) (o := .lst ((sset ns).map .int)) fun H' q => ⟨_, q, VRs.of_ints _⟩
          exact p _ _ _ (E0.trans e1) R1 _ (RR.back E0 w1)
        · rw [if_neg hl] at p; exact p.elim
      · exact p.elim
    · exact p.elim
  · exact p.elim
theorem se_sset {xs : EA} {p p2 pos2 : Pos} (hc : X.calm = true) (hg : Gl X "sorted") (hm : X.mg "sorted" = none) (hv : bootBuiltins "sorted" = some (.builtin "sorted")) (hg2 : Gl X "set") (hm2 : X.mg "set" = none) (hv2 : bootBuiltins "set" = some (.type "set"))
    (h : SA ca X W [e] xs) (hs : starEach [e] X.env = (false, eval e X.env) :: starEach [] X.env) (hpl : (backTo pos2 (starEach [] X.env)).any (·.1) = false)
    (hs2 : starEach [Expr.Call (.Name "set" p2) [e] [] pos2] X.env = (false, eval (Expr.Call (.Name "set" p2) [e] [] pos2) X.env) :: starEach [] X.env) (hpl2 : (backTo pos (starEach [] X.env)).any (·.1) = false) :
    SE ca X W (.Call (.Name "sorted" p) [.Call (.Name "set" p2) [e] [] pos2] [] pos) (eA fSSet xs) := by
  have key : PE X (.Call (.Name "sorted" p) [.Call (.Name "set" p2) [e] [] pos2] [] pos) (tCB (rSSet X.K X.w) (rdA ca W xs)) :=
    PE.imp (pe_callB (cr_sortedSet hc) hg hm hv (pa_cons (pe_callTy (cr_setI hc) hg2 hm2 hv2 h (by decide) (by decide) hs hpl) pa_nil hs2) (by decide) (by decide) hs2 hpl2) fun σ H Q q => q
  exact se_b key lk_sset
end
end Z
set_option Elab.async false
set_option linter.all false
set_option maxRecDepth 100000
/-! Z22: {t: v} with a tuple as the key; d.update of a dict comprehension. -/
namespace Z
open PySem PySem.Spec L2
/-- d[t] = v by a display -/
theorem d_dictSetT {X : Cx} {pins : List (Addr × Obj)} {σ : St} {H : Hp} {s : Shared} {E : Value → Shared → Prop} {p b : Addr} {kvs : List (List Key × V)} {k : List Key} {v : V} {r : Value} {Q : Unit → Shared → Prop} (hu : X.A.units + 1 < cLine) (I : Inv X pins σ H s) (hp : H p = some (.dT kvs)) (hz : kvs.length < sizeLine)
    (hb : H b = some (.tup (k.map kV))) (rv : RelV v r) (h : ∀ s', Inv X pins σ (upd H p (.dT (putK kvs k v))) s' → Q () s') : wpAny (model X.prog X.w) X.A (dictSet p (.ref b) r) Q E s := by
  obtain ⟨z, hd, xs, rel, dd⟩ := dt_of I.hok hp
  have hzv : xs.length ≤ sizeLine := by rw [← Paired.length rel]; exact z
  have hl : (putK kvs k v).length ≤ sizeLine := by have := length_putK kvs k v; omega
  refine wpAny_dictSet_heap (hsz := hzv) (Nat.lt_trans (Nat.lt_succ_self _) hu) (key_of I.hok hb) dd fun h' dd' hs => h _ ?_
  obtain ⟨q, es, ep, hq, g2, g3, g4, _, g5⟩ := dd'
  refine d_write I (by rw [hp]; exact True.intro) hs ⟨q, hq⟩ ⟨hl, hd, _, (rel.put k hb rv).keeps fun c ys ec => ?_, q, es, ep, hq, g2, g3, g4, g5⟩
  rw [upd_ne (ne_of ec hp (fun z => nomatch z))]
  exact ec
def tDisp1 (tk tv : TE) : TE := fun σ H Q => ∀ p, H p = none → tk σ (upd H p (.dT [])) fun x H1 => tv σ H1 fun y H2 => ∃ b ks, x = .ref b ∧ H2 b = some (.tup (ks.map kV)) ∧ H2 p = some (.dT []) ∧ Q (.ref p) (upd H2 p (.dT [(ks, y)]))
theorem pe_disp1 {X : Cx} {pos : Pos} {k v : Expr} {tk tv : TE} (hu : X.A.units + 1 < cLine) (hk : PE X k tk) (hv : PE X v tv) : PE X (.Dict [some k] [v] pos) (tDisp1 tk tv) := by
  refine ⟨fun pins s σ H Q I q => ?_⟩
  have hn := I.hok.fresh (Nat.le_refl s.heap.objs.size)
  have I1 := I.laid (a := s.heap.objs.size) (o := .dT []) (h' := s.heap.push { cls := .type "dict", data := .dict #[] }) (t' := s.toks) (fun _ _ q => Heap.get?_push_of_some _ q) (Nat.le_refl _) (dt_empty s.heap I.big)
  have P1 : PPs X pos [some k] [v] [(tk, tv)] := pps_cons hk hv pps_nil
  refine wpAny_Dict_any rfl rfl (by simp) (show 1 ≤ 15 by decide) (thn (P1.run pins _ σ _ (fun ps H2 => match ps with
    | [(x, y)] => ∃ b ks, x = .ref b ∧ H2 b = some (.tup (ks.map kV)) ∧ H2 s.heap.objs.size = some (.dT []) ∧ Q (.ref s.heap.objs.size) (upd H2 s.heap.objs.size (.dT [(ks, y)]))
    | _ => False) I1 (q _ hn)) fun ws s2 ⟨ps, H2, I2, rel, q1⟩ => ?_)
  match ps, rel, q1 with
  | [(x, y)], rel, ⟨b, ks, ex, hb, hp, q2⟩ =>
    obtain ⟨u, r, rfl, ru, rr⟩ : ∃ u r, ws = [(u, r)] ∧ RelV x u ∧ RelV y r := by
      cases rel with
      | cons h t => cases t; exact ⟨_, _, rfl, h.1, h.2⟩
    subst ex
    cases ru
    show wpAny _ _ (forIn [(Value.ref b, r)] PUnit.unit _) _ _ _
    rw [List.forIn_cons]
    refine wpAny_bind (wpAny_bind (d_dictSetT hu I2 hp (by decide) hb rr fun s3 I3 => wpAny_pure ?_))
    dsimp only
    rw [List.forIn_nil]
    exact wpAny_pure ⟨.ref _, _, I3, rfl, q2⟩
section
variable {ca : Cn} {X : Cx} {W : WF} {pos : Pos} {e a b c : Expr}
/-- {k: v}, k a tuple -/
def eDisp1 (k v : ED) : EX := fun τ h => (k τ h).bind fun x h1 => (v τ h1).bind fun y h2 => match asKs x with
  | some ks => .ok (.n (.dT [(ks, y)])) h2
  | none => .stuck
theorem se_disp1 {k v : Expr} {xk xv : ED} (hu : X.A.units + 1 < cLine) (hk : SD ca X W k xk) (hv : SD ca X W v xv) : SE ca X W (.Dict [some k] [v] pos) (eDisp1 xk xv) := PE.imp (pe_disp1 hu hk hv) fun σ H Q ⟨μ, F, τ, h, A, p⟩ l hl => by
  have hF : F l = none := by
    cases q : F l with
    | none => rfl
    | some w => exact absurd (A.rel.fz _ _ q) (by rw [hl]; exact fun z => nomatch z)
  have hm : l ∉ μ := fun z => A.rel.dom l z hl
  have A1 : At ca μ F τ h σ (upd H l (.dT [])) := ⟨A.rel.upd hl, A.sl, A.bl⟩
  have E0 : Ext τ.b μ F H h μ F (upd H l (.dT [])) h := Ext.refl.upd hl
  unfold eDisp1 at p
  refine ⟨μ, F, τ, h, A1, ?_⟩
  cases hx : xk τ h with
  | stuck => rw [hx] at p; exact p.elim
  | exc c h1 => rw [hx] at p; exact fun μ1 F1 H1 E1 R1 => p μ1 F1 H1 (E0.trans E1) R1
  | ok x h1 =>
    rw [hx] at p
    intro μ1 F1 H1 E1 R1 vx Vx
    have A2 := A1.ext E1 R1
    refine ⟨μ1, F1, τ, h1, A2, ?_⟩
    dsimp only [Res.bind] at p
    cases hy : xv τ h1 with
    | stuck => rw [hy] at p; exact p.elim
    | exc c h2 => rw [hy] at p; exact fun μ2 F2 H2 E2 R2 => p μ2 F2 H2 (E0.trans (E1.trans E2)) R2
    | ok y h2 =>
      rw [hy] at p
      intro μ2 F2 H2 E2 R2 vy Vy
      have E12 := E1.trans E2
      dsimp only at p
      cases ek : asKs x with
      | none => rw [ek] at p; exact p.elim
      | some ks =>
        rw [ek] at p
        obtain ⟨b, eb, hb⟩ := asKs_ok R2.fz (E2.vr Vx) ek
        have hlD : H2 l = some (.dT []) := E12.frame l _ upd_same hm
        have hm1 : l ∉ μ2 := fun z => by
          obtain ⟨m, e1, e2⟩ := E12.pre
          rw [e1] at z
          rcases List.mem_append.mp z with z | z
          · exact hm z
          · exact absurd (e2 l z) (by rw [upd_same]; exact fun z => nomatch z)
        have hF1 : F2 l = none := by
          cases q : F2 l with
          | none => rfl
          | some w =>
            rcases E12.newF l (by rw [q]; simp) with z | z | z | ⟨_, z⟩ | ⟨_, z⟩
            · exact absurd hF z
            · exact absurd z hm
            · rw [upd_same] at z; cases z
            · rw [upd_same] at z; cases z
            · rw [upd_same] at z; unfold LamX.CodeO at z; cases z
        exact ⟨b, ks, eb, hb, hlD, p μ2 F2 _ ((E0.trans E12).updFree hl) (R2.updFree hm1 hF1) _ ⟨l, rfl, hl, by rw [upd_same]; simp, hm1, hF1, _, upd_same, rfl, .cons Vy .nil⟩⟩
end
end Z
set_option Elab.async false
set_option linter.all false
set_option maxRecDepth 100000
/-! Z23: {k: v for .. if ..}; d.update(d2). -/
namespace Z
open PySem PySem.Spec L2
section
variable {ca : Cn} {X : Cx} {W : WF} {pos : Pos} {e a b c : Expr} {vs : List Nat}
open Classical in
noncomputable def dcGo (kp : Kp) (g : ET) (t : EB) (kx vx : ED) (b : Nat) (s : Sl) : List D → Own → List (Key × D) → Res R
  | [], h, acc => if kpOk kp h then .ok (.n (.dK acc)) h else .stuck
  | d :: ds, h, acc => if kpOk kp h then
      match g d ⟨b, s⟩ h with
      | .next s1 h1 => match t ⟨b, s1⟩ h1 with
        | .ok true h2 => match kx ⟨b, s1⟩ h2 with
          | .ok y h3 => match vx ⟨b, s1⟩ h3 with
            | .ok z h4 => match asK y with
              | some k => if acc.length < sizeLine then dcGo kp g t kx vx b s ds h4 (putD acc k z) else .stuck
              | none => .stuck
            | _ => .stuck
          | _ => .stuck
        | .ok false h2 => dcGo kp g t kx vx b s ds h2 acc
        | _ => .stuck
      | _ => .stuck
    else .stuck
noncomputable def eDC (it : EI) (g : ET) (t : EB) (kx vx : ED) (vs : List Nat) : EX := fun τ h => (it τ h).bind fun p h1 => dcGo p.2 g t kx vx τ.b (Z.clr vs τ.s) p.1 h1 []
theorem dc_rd {wi : TI} {it : EI} {g : ET} {t : EB} {kx vx : ED} {σ : L2.St} {H : Hp} {Q : VK} (h : rdE ca W (eDC it g t kx vx vs) σ H Q) : tDc (rdI ca W it) (rdGw ca vs g) (rdB ca W0 t) (rdD ca W0 kx) (rdD ca W0 vx) vs σ H Q := by
  obtain ⟨μ, F, τ, h, A, p⟩ := h
  refine ⟨μ, F, τ, h, A, ?_⟩
  unfold eDC at p
  cases hit : it τ h with
  | stuck => rw [hit] at p; exact p
  | exc c h1 => rw [hit] at p; exact p
  | ok pr h1 =>
    rw [hit] at p
    obtain ⟨ds, kp⟩ := pr
    intro μ1 F1 H1 E1 R1 hk J ok D hD
    have hk : kpOk kp h1 := hk
    have ok : ItOk ca ds kp J μ1 F1 H1 h1 := ok
    have p : PostG ca τ.b μ F H h (dcGo kp g t kx vx τ.b (Z.clr vs τ.s) ds h1 []) (wx ca W σ) fun r μ1 F1 H1 _ => ∀ v, RR ca μ1 F1 H H1 v r → Q v H1 := p
    have hD0 : H D = none := E1.fresh hD
    have dF : F1 D = none := by
      cases q : F1 D with
      | none => rfl
      | some w => have := R1.fz _ _ q; rw [hD] at this; cases this
    have dM : D ∉ μ1 := fun z => R1.dom D z hD
    refine ⟨fun i m H2 => m = ds.length - i ∧ i ≤ ds.length ∧ ∃ μ2 F2 h2 ws acc, Ext τ.b μ F H h μ2 F2 H2 h2 ∧ Ext τ.b μ1 F1 H1 h1 μ2 F2 H2 h2 ∧ RelH ca μ2 F2 h2 H2 ∧ H2 D = some (.dK ws) ∧ ws.map (·.1) = acc.map (·.1) ∧ VRs ca μ2 F2 (ws.map (·.2)) (acc.map (·.2)) ∧ D ∉ μ2 ∧ F2 D = none ∧
      PostG ca τ.b μ F H h (dcGo kp g t kx vx τ.b (Z.clr vs τ.s) (ds.drop i) h2 acc) (wx ca W σ) fun r μ1 F1 H1 _ => ∀ v, RR ca μ1 F1 H H1 v r → Q v H1,
      ⟨ds.length, rfl, Nat.zero_le _, μ1, F1, h1, [], [], E1.upd hD, Ext.refl.upd hD, R1.upd hD, upd_same, rfl, .nil, dM, dF, p⟩, ?_⟩
    rintro i m H2 ⟨rfl, hi, μ2, F2, h2, ws, acc, E2, Eg, R2, q2, K2, V2, nM, nF, w⟩
    have hkp : kpOk kp h2 := by
      cases hd : ds.drop i with
      | nil =>
        rw [hd, dcGo] at w
        by_cases z : kpOk kp h2
        · exact z
        · rw [if_neg z] at w; exact w.elim
      | cons d r =>
        rw [hd, dcGo] at w
        by_cases z : kpOk kp h2
        · exact z
        · rw [if_neg z] at w; exact w.elim
    obtain ⟨k1, k2⟩ := ok τ.b μ2 F2 h2 H2 Eg R2 hkp i
    by_cases hlt : i < ds.length
    · obtain ⟨go, yl⟩ := k1 hlt
      refine .inr ⟨go, fun H' => i + 1 ≤ ds.length ∧ ∃ μ2 F2 h2 ws acc, Ext τ.b μ F H h μ2 F2 H' h2 ∧ Ext τ.b μ1 F1 H1 h1 μ2 F2 H' h2 ∧ RelH ca μ2 F2 h2 H' ∧ H' D = some (.dK ws) ∧ ws.map (·.1) = acc.map (·.1) ∧ VRs ca μ2 F2 (ws.map (·.2)) (acc.map (·.2)) ∧ D ∉ μ2 ∧ F2 D = none ∧
          PostG ca τ.b μ F H h (dcGo kp g t kx vx τ.b (Z.clr vs τ.s) (ds.drop (i + 1)) h2 acc) (wx ca W σ) fun r μ1 F1 H1 _ => ∀ v, RR ca μ1 F1 H H1 v r → Q v H1,
        fun H' z => ⟨ds.length - (i + 1), by omega, rfl, z.1, z.2⟩, fun y H3 yy => ?_⟩
      obtain ⟨F3, d, ed, E3, R3, V3⟩ := yl y H3 yy
      have E3' := E3 τ.b
      -- what stays of the new list through a step
      have stay : ∀ {μ4 : List Addr} {F4 H4 : Hp} {h4 : Own}, Ext τ.b μ2 F2 H2 h2 μ4 F4 H4 h4 → H4 D = some (.dK ws) ∧ D ∉ μ4 ∧ F4 D = none := fun {μ4 F4 H4 h4} E => by
        refine ⟨E.frame D _ q2 nM, fun z => ?_, ?_⟩
        · obtain ⟨m, e1, e2⟩ := E.pre
          rw [e1] at z
          rcases List.mem_append.mp z with z | z
          · exact nM z
          · rw [e2 D z] at q2; cases q2
        · cases q : F4 D with
          | none => rfl
          | some u =>
            rcases E.newF D (by rw [q]; simp) with z | z | z | ⟨_, z⟩ | ⟨_, z⟩
            · exact absurd nF z
            · exact absurd z nM
            · rw [z] at q2; cases q2
            · rw [z] at q2; cases q2
            · rw [z] at q2; unfold LamX.CodeO at q2; cases q2
      have hd : ds.drop i = d :: ds.drop (i + 1) := by
        rw [List.drop_eq_getElem_cons hlt]
        congr 1
        exact Option.some.inj ((List.getElem?_eq_getElem hlt).symm.trans ed)
      rw [hd, dcGo, if_pos hkp] at w
      have hbl : τ.b ≤ h2.length := Nat.le_trans A.bl (E2.len A.rel R2)
      have S3 : SR ca μ2 F3 (Z.clr vs τ.s) (L2.wipe σ vs) := SR.wipe (E3'.sr (E2.sr A.sl)) vs
      cases hgd : g d ⟨τ.b, Z.clr vs τ.s⟩ h2 with
      | next s4 h4 =>
        rw [hgd] at w
        dsimp only at w
        refine ⟨μ2, F3, ⟨τ.b, Z.clr vs τ.s⟩, h2, d, ⟨R3, S3, hbl⟩, V3, s4, h4, hgd, fun μ4 F4 H4 σ4 E4 R4 S4 w4 => ⟨?_, ?_⟩⟩
        · rw [w4]
          apply List.ext_getElem?
          intro j
          rw [wipe_get, wipe_get, wipe_length]
          by_cases hj : j ∈ vs ∧ j < σ.length
          · rw [if_pos hj, if_pos hj]
          · rw [if_neg hj, if_neg hj]
        · have bl4 : τ.b ≤ h4.length := Nat.le_trans hbl (E4.len R3 R4)
          refine ⟨μ4, F4, ⟨τ.b, s4⟩, h4, ⟨R4, S4, bl4⟩, ?_⟩
          cases ht : t ⟨τ.b, s4⟩ h4 with
          | stuck => rw [ht] at w; exact w.elim
          | exc c h5 => rw [ht] at w; exact w.elim
          | ok k h5 =>
            rw [ht] at w
            intro μ5 F5 H5 E5 R5
            have bl5 : τ.b ≤ h5.length := Nat.le_trans bl4 (E5.len R4 R5)
            cases k with
            | false =>
              dsimp only at w
              obtain ⟨z1, z2, z3⟩ := stay (E3'.trans (E4.trans E5))
              exact ⟨hlt, μ5, F5, h5, ws, acc, E2.trans (E3'.trans (E4.trans E5)), Eg.trans (E3'.trans (E4.trans E5)), R5, z1, K2, (E3'.trans (E4.trans E5)).vrs V2, z2, z3, w⟩
            | true =>
              dsimp only at w
              show rdD ca W0 kx σ4 H5 _
              refine ⟨μ5, F5, ⟨τ.b, s4⟩, h5, ⟨R5, E5.sr S4, bl5⟩, ?_⟩
              cases hx : kx ⟨τ.b, s4⟩ h5 with
              | stuck => rw [hx] at w; exact w.elim
              | exc c h6 => rw [hx] at w; exact w.elim
              | ok y6 h6 =>
                rw [hx] at w
                dsimp only at w
                intro μ6 F6 H6 E6 R6 v6 V6
                have bl6 : τ.b ≤ h6.length := Nat.le_trans bl5 (E6.len R5 R6)
                show rdD ca W0 vx σ4 H6 _
                refine ⟨μ6, F6, ⟨τ.b, s4⟩, h6, ⟨R6, E6.sr (E5.sr S4), bl6⟩, ?_⟩
                cases hy : vx ⟨τ.b, s4⟩ h6 with
                | stuck => rw [hy] at w; exact w.elim
                | exc c h7 => rw [hy] at w; exact w.elim
                | ok z7 h7 =>
                  rw [hy] at w
                  dsimp only at w
                  cases ek : asK y6 with
                  | none => rw [ek] at w; exact w.elim
                  | some kk =>
                    rw [ek] at w
                    dsimp only at w
                    have evk := asK_ok V6 ek
                    by_cases hl : acc.length < sizeLine
                    · rw [if_pos hl] at w
                      intro μ7 F7 H7 E7 R7 v7 V7
                      have Ea := E3'.trans (E4.trans (E5.trans (E6.trans E7)))
                      obtain ⟨z1, z2, z3⟩ := stay Ea
                      have hlen : ws.length = acc.length := by simpa using congrArg List.length K2
                      obtain ⟨p1, p2⟩ := vr_put kk V7 K2 (Ea.vrs V2)
                      exact ⟨ws, kk, evk, z1, by rw [hlen]; exact hl, hlt, μ7, F7, h7, putK ws kk v7, putD acc kk z7, (E2.trans Ea).updFree hD0, (Eg.trans Ea).updFree hD, R7.updFree z2 z3, upd_same, p1, p2, z2, z3, w⟩
                    · rw [if_neg hl] at w; exact w.elim
      | _ => rw [hgd] at w; exact w.elim
    · refine .inl ⟨k2 (by omega), ?_⟩
      rw [List.drop_eq_nil_of_le (by omega), dcGo, if_pos hkp] at w
      exact w μ2 F2 H2 E2 R2 (.ref D) ⟨D, rfl, hD0, by rw [q2]; simp, nM, nF, ws, q2, K2, V2⟩
theorem se_dc {kx vx tg iter : Expr} {ifs : List Expr} {scope : Scope} {own : List (Str × Nat)} {it : EI} {g : ET} {t : EB} {xk xv : ED} (hc : X.calm = true) (hN : X.N.Nodup) (hi : SI ca X W tg iter it) (ok : BlkOk X.N X.env.scope scope own)
    (hg : ∀ (s : Shared) (H : Hp) (C : Addr) (cl : List (Str × Addr)) (fp : List Addr), SGw ca (X.blk s H scope (compEnvC scope cl C X.env) fp) (own.map (·.2)) tg g) (ht : ∀ (s : Shared) (H : Hp) (C : Addr) (cl : List (Str × Addr)) (fp : List Addr), STs ca (X.blk s H scope (compEnvC scope cl C X.env) fp) ifs t)
    (hk : ∀ (s : Shared) (H : Hp) (C : Addr) (cl : List (Str × Addr)) (fp : List Addr), SD ca (X.blk s H scope (compEnvC scope cl C X.env) fp) W0 kx xk)
    (he : ∀ (s : Shared) (H : Hp) (C : Addr) (cl : List (Str × Addr)) (fp : List Addr), SD ca (X.blk s H scope (compEnvC scope cl C X.env) fp) W0 vx xv) (hs : ∀ x, foldedSetIterable iter X.env x = pure x) :
    SE ca X W (.DictComp kx vx [⟨tg, iter, ifs, 0⟩] scope pos) (eDC it g t xk xv (own.map (·.2))) := PE.imp (pe_dc hc hN hi ok hg ht hk he hs) fun σ H Q h => dc_rd (wi := rdI ca W it) h
end
/-! ### d.update(d2) -/
def rDUpd : V → List V → Hp → VK → Prop := fun x vs H Q => ∃ d o kvs more, x = .ref d ∧ vs = [.ref o] ∧ d ≠ o ∧ H d = some (.dK kvs) ∧ Rd H o (.dK more) ∧ kvs.length + more.length ≤ sizeLine ∧ Q .non (upd H d (.dK (mergeK kvs more)))
theorem mt_dupd {X : Cx} : MtR X "dict.update" rDUpd := by
  intro pins s σ H x vs v us Q I rx rv h
  obtain ⟨d, o, kvs, more, rfl, rfl, hne, hd, ho, hl, q⟩ := h
  cases rx
  rw [Vals.ref1 rv]
  obtain ⟨z1, g1, vs1, r1, d1⟩ := dk_of I.hok hd
  obtain ⟨z2, g2, vs2, r2, d2⟩ := dk_rd I.hok ho
  refine call_meetsIn PySem.F.slot_dict_update d1.typeIs PySem.F.entry_dict_update (PySem.F.args_dict_update_2 _ _) (meets_dict_update (mixKind X.prog X.w) d o hne g2) ⟨vs1, vs2, d1, d2, by rw [← r1.length, ← r2.length]; exact hl, fun h' m _ hs => ?_⟩
  have he : ∃ q, h'.get? d = some q := let ⟨q, _, _, hq, _⟩ := m; ⟨q, hq⟩
  have hz : (mergeK kvs more).length ≤ sizeLine := Nat.le_trans (length_mergeK more kvs) hl
  exact ⟨.non, _, d_write (t' := s.toks) I (by rw [hd]; exact True.intro) hs he (dk_new hz g1 (r2.merge r1) m), rfl, q⟩
section
variable {ca : Cn}
def fUpd : FM := fun d xs b h => match d, xs with
  | .ref n, [.dK more] => match h[n]? with
    | some (.dK kds) => if kds.length + more.length ≤ sizeLine then (match putO h b n (.dK (mergeD kds more)) with
      | some h' => .ok (.v .non) h'
      | none => .stuck) else .stuck
    | _ => .stuck
  | _, _ => .stuck
theorem lk_upd : LkM ca fUpd rDUpd := fun b μ F H h Wx x d vs ds Q R V1 Vs _ p => by
  unfold fUpd at p
  split at p
  · rename_i n more
    obtain ⟨v, rfl, Vr⟩ := Vs.one
    cases V1 with
    | @ref a n en =>
      cases Vr with
      | @dK o kvs2 kds2 q2 k2 r2 =>
        split at p
        · rename_i kds e0
          obtain ⟨kvs, q1, k1, r1⟩ := R.ob n _ _ en e0
          have l1 : kvs.length = kds.length := by simpa using congrArg List.length k1
          have l2 : kvs2.length = more.length := by simpa using congrArg List.length k2
          by_cases hl : kds.length + more.length ≤ sizeLine
          · rw [if_pos hl] at p
            cases e3 : putO h b n (.dK (mergeD kds more)) with
            | none => rw [e3] at p; exact p.elim
            | some h' =>
              rw [e3] at p
              have hne : a ≠ o := by
                rintro rfl
                have := R.sep n a _ en e0 (fun z => nomatch z)
                rw [q2] at this
                cases this
              obtain ⟨w1, w2⟩ := merge_ok k2 r2 k1 r1
              obtain ⟨R2, E2⟩ := put_ok R en e0 rfl e3 (u := .dK (mergeK kvs kvs2)) fun H' q => ⟨_, q, w1, w2⟩
              exact ⟨a, o, kvs, kvs2, rfl, rfl, hne, q1, Rd.of (R.fz _ _ q2), by rw [l1, l2]; exact hl, p μ F _ E2 R2 _ (show VR ca _ _ _ _ from .non)⟩
          · rw [if_neg hl] at p; exact p.elim
        · exact p.elim
  · exact p.elim
end
end Z
set_option Elab.async false
set_option linter.all false
set_option maxRecDepth 100000
/-! Z24: what is known of an exception class of the program's own. -/
namespace Z
open PySem PySem.Spec L2
structure ExFC (K : PySem.W.Frag) (mg : Str → Option Value) (x : Str) (C : Addr) : Prop where
  g : mg x = some (.ref C)
  ex : PySem.W.excIn K C [.type "ValueError", .type "Exception", .type "BaseException", .type "object"] "ValueError.__new__" = true
  kp : PySem.W.keepIn K (.ref C) = true
  b : PySem.W.subIn K (.ref C) (.type "BaseException") = some true
  t : PySem.W.typeIn K (.ref C) = some (.type "type")
  em : PySem.W.exmOne K (.ref C) (.ref C) = some true
abbrev ExF (K : PySem.W.Frag) (mg : Str → Option Value) (ca : Cn) (x : Str) (c : Nat) : Prop := ExFC K mg x (ca.ad c)
theorem exm_self' {K : PySem.W.Frag} {C : Addr} (b : PySem.W.subIn K (.ref C) (.type "BaseException") = some true) (i : PySem.W.isClsIn K C = true) (t : PySem.W.typeIn K (.ref C) = some (.type "type")) (s : PySem.W.subIn K (.ref C) (.ref C) = some true) :
    PySem.W.exmOne K (.ref C) (.ref C) = some true := by
  have i' : (PySem.W.clsIn K C).isSome = true := i
  have z1 : (PySem.W.subIn K (.ref C) (.type "BaseException") == some true) = true := by rw [b]; rfl
  have z2 : ((PySem.W.clsIn K C).isSome && PySem.W.typeIn K (.ref C) == some (.type "type")) = true := by rw [i', t]; rfl
  unfold PySem.W.exmOne
  rw [if_pos z1]
  exact (if_pos z2).trans s
end Z
set_option Elab.async false
set_option linter.all false
set_option maxRecDepth 100000
/-! Z25: numbers, words, draws, dicts of marks: what holds of no program alone. -/
namespace Z
open PySem PySem.Spec L2
abbrev nD (n : Nat) : D := .int (n : Int)
abbrev wD (w : List Nat) : D := .tup (w.map nD)
@[simp] theorem nrf_nDs : ∀ w : List Nat, nrfs (w.map nD) = true
  | [] => rfl
  | _ :: w => by rw [List.map_cons, nrfs, nrf_nDs w]; rfl
@[simp] theorem nrf_wD (w : List Nat) : nrf (wD w) = true := by rw [wD, nrf, nrf_nDs]
@[simp] theorem nrf_wDs : ∀ w : List (List Nat), nrfs (w.map wD) = true
  | [] => rfl
  | _ :: w => by rw [List.map_cons, nrfs, nrf_wDs w, nrf_wD]; rfl
@[simp] theorem flat_nDs : ∀ w : List Nat, (w.map nD).all flatD = true
  | [] => rfl
  | _ :: w => by rw [List.map_cons, List.all_cons, flat_nDs w]; rfl
theorem anyD (w : List Nat) (n : Nat) : ((w.map nD).any fun z => eqD z (nD n)) = w.contains n := by
  induction w with
  | nil => rfl
  | cons a w ih =>
    rw [List.map_cons, List.any_cons, ih, List.contains_cons]
    congr 1
    show ((a : Int) == (n : Int)) = (n == a)
    rw [Bool.eq_iff_iff]
    simp
    omega
theorem ix_w {w : List Nat} {n a : Nat} (h : Own) (e : w[n]? = some a) : fIx (wD w) (nD n) h = .ok (.v (nD a)) h :=
  fIx_q (ds := w.map nD) rfl rfl (by rw [List.getElem?_map, e]; rfl)
theorem ix_L {L : List (List Nat)} {n : Nat} {a : List Nat} (h : Own) (e : L[n]? = some a) : fIx (.tup (L.map wD)) (nD n) h = .ok (.v (wD a)) h :=
  fIx_q (ds := L.map wD) rfl rfl (by rw [List.getElem?_map, e]; rfl)
theorem ix_Ll {L : List (List Nat)} {n : Nat} {a : List Nat} (h : Own) (e : L[n]? = some a) : fIx (.lst (L.map wD)) (nD n) h = .ok (.v (wD a)) h :=
  fIx_q (ds := L.map wD) rfl rfl (by rw [List.getElem?_map, e]; rfl)
theorem ix_q {d : D} {w : List Nat} {n a : Nat} (h : Own) (q : asQ h d = some (w.map nD)) (e : w[n]? = some a) : fIx d (nD n) h = .ok (.v (nD a)) h :=
  fIx_q q rfl (by rw [List.getElem?_map, e]; rfl)

def has (w : List Nat) (n : Nat) : Bool := w.contains n
theorem has_iff {w : List Nat} {n : Nat} : has w n = true ↔ n ∈ w := by simp [has]
@[simp] theorem fIn_w (w : List Nat) (n : Nat) (h : Own) : fIn (nD n) (wD w) h = .ok (.v (.bl (has w n))) h := by
  rw [fIn_q (ds := w.map nD) rfl rfl (flat_nDs w), anyD]; rfl
@[simp] theorem fNotIn_w (w : List Nat) (n : Nat) (h : Own) : fNotIn (nD n) (wD w) h = .ok (.v (.bl (!has w n))) h := by
  rw [fNotIn_q (ds := w.map nD) rfl rfl (flat_nDs w), anyD]; rfl
theorem fIn_q' {w : List Nat} {d : D} (n : Nat) (h : Own) (e : asQ h d = some (w.map nD)) : fIn (nD n) d h = .ok (.v (.bl (has w n))) h := by
  rw [fIn_q e rfl (flat_nDs w), anyD]; rfl
theorem any_take_succ {α : Type} (p : α → Bool) {w : List α} {k : Nat} (hk : k < w.length) : (w.take (k + 1)).any p = ((w.take k).any p || p w[k]) := by
  rw [List.take_succ_eq_append_getElem hk, List.any_append]
  simp
theorem range_filter_succ (p : Nat → Bool) (k : Nat) : (List.range (k + 1)).filter p = if p k then (List.range k).filter p ++ [k] else (List.range k).filter p := by
  rw [List.range_succ, List.filter_append]
  cases h : p k <;> simp [h]
theorem toP_nDs (k : Nat) : ∀ w : List Nat, (w.map nD).mapM (toP k) = some (w.map fun n : Nat => PyData.int (n : Int))
  | [] => rfl
  | a :: w => by
    rw [List.map_cons, List.mapM_cons, toP_nDs k w]
    have : toP k (nD a) = some (.int (a : Int)) := by cases k <;> rfl
    rw [this]
    rfl
theorem eqvAll_nats : ∀ u v : List Nat, PyData.eqvAll (u.map fun n : Nat => PyData.int (n : Int)) (v.map fun n : Nat => PyData.int (n : Int)) = decide (u = v)
  | [], [] => by simp [PyData.eqvAll]
  | [], b :: v => by simp [PyData.eqvAll]
  | a :: u, [] => by simp [PyData.eqvAll]
  | a :: u, b :: v => by
    rw [List.map_cons, List.map_cons, PyData.eqvAll, eqvAll_nats u v, PyData.eqv]
    rw [Bool.eq_iff_iff]
    simp
    intro _
    omega
theorem toPh_wD (w : List Nat) (h : Own) : toPh h (wD w) = some (.tuple (w.map fun n : Nat => PyData.int (n : Int))) := by
  show ((w.map nD).mapM (toP 7)).map PyData.tuple = _
  rw [toP_nDs]
  rfl
theorem fEq_w (u v : List Nat) (h : Own) : fEq (wD u) (wD v) h = .ok (.v (.bl (decide (u = v)))) h := by
  unfold fEq fEqN
  rw [toPh_wD, toPh_wD]
  simp [PyData.eqv, eqvAll_nats]
theorem fNe_w (u v : List Nat) (h : Own) : fNe (wD u) (wD v) h = .ok (.v (.bl (!decide (u = v)))) h := by
  unfold fNe fEqN
  rw [toPh_wD, toPh_wD]
  simp [PyData.eqv, eqvAll_nats]
theorem downD_eq (n : Nat) : downD ((n : Int) - 1) n = (List.range n).map fun k : Nat => D.int ((n - 1 - k : Nat) : Int) := by
  unfold downD
  apply List.map_congr_left
  intro k hk
  have := List.mem_range.mp hk
  congr 1
  omega
theorem asB_bls : ∀ bs : List Bool, asB (bs.map D.bl) = some bs
  | [] => rfl
  | b :: bs => by rw [List.map_cons, asB, asB_bls bs]; rfl
theorem fAny_bls (bs : List Bool) (h : Own) : fAny [.lst (bs.map .bl)] h = .ok (.v (.bl (bs.any id))) h := by
  unfold fAny fBls
  simp [asB_bls]
theorem fAll_bls (bs : List Bool) (h : Own) : fAll [.lst (bs.map .bl)] h = .ok (.v (.bl (bs.all id))) h := by
  unfold fAll fBls
  simp [asB_bls]
theorem len_filter_pos (p : Nat → Bool) (w : List Nat) : decide ((0 : Int) < (w.filter p).length) = w.any p := by
  rw [Bool.eq_iff_iff, decide_eq_true_eq, List.any_eq_true]
  constructor
  · intro h
    have h0 : 0 < (w.filter p).length := by omega
    obtain ⟨x, hx⟩ := List.exists_mem_of_length_pos h0
    rw [List.mem_filter] at hx
    exact ⟨x, hx.1, hx.2⟩
  · rintro ⟨x, hx, hp⟩
    have : x ∈ w.filter p := List.mem_filter.mpr ⟨hx, hp⟩
    have := List.length_pos_of_mem this
    omega
theorem fNe_nn {a b : Nat} {h : Own} : fNe (nD a) (nD b) h = .ok (.v (.bl (!decide (a = b)))) h := by
  rw [fNe_ii]
  congr 4
  rw [decide_eq_decide]
  omega
def iL (ds : List Int) : O := .lst (ds.map .int)
theorem nrf_ints : ∀ ds : List Int, nrfs (ds.map D.int) = true
  | [] => rfl
  | _ :: ds => by rw [List.map_cons, nrfs, nrf_ints ds]; rfl
theorem nrf_iL (ds : List Int) : nrfO (iL ds) = true := by rw [iL, nrfO, nrf_ints]
/-- at d the draws lie -/
def Dr (h : Own) (d : Nat) (ds : List Int) : Prop := h[d]? = some (iL ds)
/-- the heap H goes on from h, but for the draws at d -/
structure Dq (h : Own) (d : Nat) (H : Own) : Prop where
  lt : d < h.length
  ex : ∃ ds l, H = h.set d (iL ds) ++ l
theorem Dq.dr {h H : Own} {d : Nat} (D : Dq h d H) : ∃ ds, Dr H d ds := by
  obtain ⟨ds, l, rfl⟩ := D.ex
  refine ⟨ds, ?_⟩
  unfold Dr
  rw [hp_getl (by simpa using D.lt)]
  simp [D.lt]
theorem Dq.le {h H : Own} {d : Nat} (D : Dq h d H) : h.length ≤ H.length := by
  obtain ⟨ds, l, rfl⟩ := D.ex
  simp
theorem set_self {h : Own} {d : Nat} {o : O} (e : h[d]? = some o) : h.set d o = h := by
  have hlt : d < h.length := (List.getElem?_eq_some_iff.mp e).1
  apply List.ext_getElem?
  intro i
  rw [List.getElem?_set]
  split
  · rename_i q; subst q; simp [hlt]; exact (Option.some.inj ((List.getElem?_eq_getElem hlt).symm.trans e)).symm
  · rfl
theorem Dq.refl {h : Own} {d : Nat} {ds : List Int} (D : Dr h d ds) : Dq h d h :=
  ⟨(List.getElem?_eq_some_iff.mp D).1, ds, [], by rw [set_self D]; simp⟩
theorem Dq.set {h H : Own} {d n : Nat} (D : Dq h d H) (hn : h.length ≤ n) (o : O) : Dq h d (H.set n o) := by
  obtain ⟨ds, l, rfl⟩ := D.ex
  refine ⟨D.lt, ds, l.set (n - h.length) o, ?_⟩
  rw [List.set_append, if_neg (by simp; omega)]
  simp
theorem Dq.push {h H : Own} {d : Nat} (D : Dq h d H) (o : O) : Dq h d (H ++ [o]) := by
  obtain ⟨ds, l, rfl⟩ := D.ex
  exact ⟨D.lt, ds, l ++ [o], by simp⟩
theorem Dq.cut {h H : Own} {d : Nat} (D : Dq h d H) : ∃ ds, H.take h.length = h.set d (iL ds) := by
  obtain ⟨ds, l, rfl⟩ := D.ex
  exact ⟨ds, by simp⟩
theorem call_x {G : BD} {as : List D} {h : Own} {Pr : D → Own → Prop} (e : W (G h.length as h) fun r => ∃ d h1, r = .ret (.v d) h1 ∧ nrf d = true ∧ Pr d h1) : ∃ d h1, Pr d h1 ∧ callB G as h = .ok (.v d) (h1.take h.length) := by
  obtain ⟨d, h1, e, nd, p⟩ := e
  refine ⟨d, h1, p, ?_⟩
  unfold callB
  rw [e]
  show exitR h.length (.v d) h1 = _
  unfold exitR
  cases d <;> first | (cases nd; done) | (dsimp only; rw [if_pos nd])
theorem call_xr {G : BD} {as : List D} {h : Own} {Pr : O → Own → Prop} (e : W (G h.length as h) fun r => ∃ m o h1, r = .ret (.v (.ref m)) h1 ∧ h.length ≤ m ∧ h1[m]? = some o ∧ nrfO o = true ∧ notDead o = true ∧ Pr o h1) : ∃ o h1, Pr o h1 ∧ callB G as h = .ok (.n o) (h1.take h.length) := by
  obtain ⟨m, o, h1, e, hm, e2, n1, n2, p⟩ := e
  refine ⟨o, h1, p, ?_⟩
  unfold callB
  rw [e]
  show exitR h.length (.v (.ref m)) h1 = _
  unfold exitR
  dsimp only
  rw [if_neg (by omega), e2]
  dsimp only
  rw [if_pos ⟨n1, n2⟩]
def kd (cs : List Nat) : List (Key × D) := cs.map fun c : Nat => (Sum.inl (c : Int), D.bl true)
theorem putD_kd (cs : List Nat) (c : Nat) : putD (kd cs) (Sum.inl (c : Int) : Key) (.bl true) = kd (if c ∈ cs then cs else cs ++ [c]) := by
  have h1 : ((kd cs).any fun p => decide (p.1 = (Sum.inl (c : Int) : Key))) = decide (c ∈ cs) := by
    unfold kd
    rw [List.any_map, Bool.eq_iff_iff, List.any_eq_true, decide_eq_true_eq]
    constructor
    · rintro ⟨x, hx, e⟩
      have : (x : Int) = c := by simpa using e
      have : x = c := by omega
      exact this ▸ hx
    · exact fun hx => ⟨c, hx, by simp⟩
  unfold putD
  rw [h1]
  by_cases hc : c ∈ cs
  · rw [if_pos (by simpa using hc), if_pos hc]
    unfold kd
    rw [List.map_map]
    apply List.map_congr_left
    intro x _
    simp only [Function.comp]
    split
    · rename_i e; rw [e]
    · rfl
  · rw [if_neg (by simpa using hc), if_neg hc]
    unfold kd
    simp
theorem isort_nat (cs : List Nat) (nd : cs.Nodup) : ∃ l : List Nat, isort (cs.map fun c : Nat => (c : Int)) = l.map (fun c : Nat => (c : Int)) ∧ l.Perm cs ∧ l.Pairwise (· < ·) := by
  refine ⟨cs.mergeSort (· ≤ ·), ?_, List.mergeSort_perm _ _, ?_⟩
  · symm
    apply isort_uniq
    · exact (List.mergeSort_perm _ _).map _
    · have := List.pairwise_mergeSort (le := fun a b : Nat => decide (a ≤ b)) (fun a b c h1 h2 => by simp at *; omega) (fun a b => by simp; omega) cs
      rw [List.pairwise_map]
      exact this.imp fun h => by simp at h; omega
  · have h1 := List.pairwise_mergeSort (le := fun a b : Nat => decide (a ≤ b)) (fun a b c h1 h2 => by simp at *; omega) (fun a b => by simp; omega) cs
    have h2 : (cs.mergeSort (· ≤ ·)).Nodup := (List.mergeSort_perm _ _).nodup_iff.mpr nd
    have h3 := h1.and h2
    exact h3.imp fun ⟨a, b⟩ => by simp at a; omega
@[simp] theorem pNil_eq {τ : Fm} {h : Own} : pNil τ h = .ok [] h := rfl
@[simp] theorem pCons_eq {k v : ED} {r : EPs} {τ : Fm} {h : Own} : pCons k v r τ h = (k τ h).bind fun kd h1 => (v τ h1).bind fun d h2 => (r τ h2).bind fun ps h3 => match asK kd with
  | some kk => .ok ((kk, d) :: ps) h3
  | none => .stuck := by
  unfold pCons
  rfl
@[simp] theorem eDisp_eq {ps : EPs} {τ : Fm} {h : Own} : eDisp ps τ h = (ps τ h).bind fun kds h1 => if kds.length ≤ 15 then .ok (.n (.dK (mergeD [] kds))) h1 else .stuck := rfl
@[simp] theorem asK_int {i : Int} : asK (.int i) = some (Sum.inl i) := rfl
@[simp] theorem sPut_eq {o i x : ED} {τ : Fm} {h : Own} : sPut o i x τ h = sE x (fun v τ h => sE o (fun d τ h => sE i (fun k τ h => match fPut τ.b d k v h with
  | some h1 => .next τ.s h1
  | none => .stuck) τ h) τ h) τ h := by
  unfold sPut
  rfl
theorem get_set_ne {H : Own} {n m : Nat} {o : O} (h : n ≠ m) : (H.set n o)[m]? = H[m]? := by rw [List.getElem?_set, if_neg h]
theorem get_set_self {H : Own} {n : Nat} {o : O} (h : n < H.length) : (H.set n o)[n]? = some o := by rw [List.getElem?_set]; simp [h]
theorem lt_of_get {H : Own} {n : Nat} {o : O} (h : H[n]? = some o) : n < H.length := (List.getElem?_eq_some_iff.mp h).1
theorem get_push {H : Own} {n : Nat} {o x : O} (h : H[n]? = some o) : (H ++ [x])[n]? = some o := by rw [List.getElem?_append_left (lt_of_get h)]; exact h
theorem fMulA_r {i j : Int} {h : Own} (hj : -(2 ^ 64) < j ∧ j < 2 ^ 64) : fMulA (.int i) (.int j) h = .ok (.v (.int (i * j))) h := by
  have hc : (decide (-(2 ^ 64) < i ∧ i < 2 ^ 64) || decide (-(2 ^ 64) < j ∧ j < 2 ^ 64)) = true := by
    rw [decide_eq_true hj, Bool.or_true]
  have e1 : fMul (.int i) (.int j) h = .ok (.v (.int (i * j))) h := by
    unfold fMul fIc
    dsimp only
    rw [if_pos hc]
  show (match fMul (.int i) (.int j) h with | .stuck => fRepL (.int i) (.int j) h | z => z) = _
  rw [e1]
theorem small64 {j : Int} (h1 : -1000000000000 < j) (h2 : j < 1000000000000) : -(2 ^ 64) < j ∧ j < 2 ^ 64 := by
  simp only [Int.reducePow]
  omega
theorem fPut_lst {H : Own} {b n : Nat} {xs : List Z.D} {k : Nat} {v : Z.D} (hb : b ≤ n) (hk : k < xs.length) (e : H[n]? = some (.lst xs)) : fPut b (.ref n) (.int (k : Int)) v H = some (H.set n (.lst (xs.set k v))) := by
  unfold fPut
  simp only [e, ixN_nat hk]
  rw [putO_own hb]
theorem take_set {H : Own} {n m : Nat} {o : O} (h : n ≤ m) : (H.set m o).take n = H.take n := by
  rw [List.take_set]
  apply List.set_eq_of_length_le
  rw [List.length_take]
  omega
theorem W_imp {x : SRes} {Q Q' : SRes → Prop} (h : W x Q) (i : ∀ r, Q r → Q' r) : W x Q' := i _ h
@[simp] theorem fIsN_nn {i : Int} {b : Bool} {h : Own} : isN (.int i) = false := rfl
@[simp] theorem isN_str {z : Str} : isN (.str z) = false := rfl
@[simp] theorem isN_tup {z : List Z.D} : isN (.tup z) = false := rfl
@[simp] theorem tyD_int {h : Own} {i : Int} : tyD h (.int i) = some "int" := rfl
@[simp] theorem tyD_str {h : Own} {i : Str} : tyD h (.str i) = some "str" := rfl
@[simp] theorem tyD_tup {h : Own} {i : List Z.D} : tyD h (.tup i) = some "tuple" := rfl
theorem fEq_bb {a b : Bool} {h : Own} : fEq (.bl a) (.bl b) h = .ok (.v (.bl (a == b))) h := by
  show Res.ok (R.v (.bl (PyData.eqv (.bool a) (.bool b)))) h = _
  simp [PyData.eqv]
theorem fNe_bb {a b : Bool} {h : Own} : fNe (.bl a) (.bl b) h = .ok (.v (.bl (!(a == b)))) h := by
  show Res.ok (R.v (.bl (!PyData.eqv (.bool a) (.bool b)))) h = _
  simp [PyData.eqv]
theorem fEq_ss {z : Str} (hz : PyData.strOk z = true) {h : Own} : fEq (.str z) (.str z) h = .ok (.v (.bl true)) h := by
  have e : toPh h (.str z) = some (.str z) := by
    show (if PyData.strOk z = true then some (PyData.str z) else none) = _
    rw [if_pos hz]
  unfold fEq fEqN
  rw [e]
  simp [PyData.eqv]
theorem W_seq' {a b : ST} {τ : Fm} {h : Own} {Q : SRes → Prop} (k : ∀ R : ST, R = b → W (a τ h) (Th R τ.b Q)) : W (sSeq a b τ h) Q := by
  rw [W_seq]
  exact k b rfl
@[simp] theorem frzO_ins {c : Nat} {fs : List Z.D} : frzO (.ins c fs) = some (.obj c fs) := rfl
theorem fNe_ss {z : Str} (hz : PyData.strOk z = true) {h : Own} : fNe (.str z) (.str z) h = .ok (.v (.bl false)) h := by
  have e : toPh h (.str z) = some (.str z) := by
    show (if PyData.strOk z = true then some (PyData.str z) else none) = _
    rw [if_pos hz]
  unfold fNe fEqN
  rw [e]
  simp [PyData.eqv]
theorem asI_ints : ∀ ns : List Int, asI (ns.map Z.D.int) = some ns
  | [] => rfl
  | n :: ns => by rw [List.map_cons, asI, asI_ints ns]; rfl
theorem lmax_some : ∀ {ns : List Int}, ns ≠ [] → ∃ m, lmax ns = some m
  | [], h => absurd rfl h
  | n :: ns, _ => by
    rw [lmax]
    cases lmax ns with
    | none => exact ⟨n, rfl⟩
    | some m => exact ⟨_, rfl⟩
theorem fMax_ints {ns : List Int} {m : Int} (h1 : m ∈ ns) (h2 : ∀ y ∈ ns, y ≤ m) (h : Own) : fMax [.lst (ns.map .int)] h = .ok (.v (.int m)) h := by
  obtain ⟨k, hk⟩ := lmax_some (ns := ns) (by rintro rfl; cases h1)
  have hk2 := lmax_ok hk
  have : k = m := Int.le_antisymm (h2 k hk2.1) (hk2.2 m h1)
  subst this
  unfold fMax fInts
  simp [asI_ints, hk]
theorem Dr.set {H : Own} {ds ds' : List Int} (h : Dr H 0 ds) : Dr (H.set 0 (iL ds')) 0 ds' := get_set_self (lt_of_get h)
theorem fPut_kd' {H : Own} {b n : Nat} {cs : List Nat} {c : Nat} (hb : b ≤ n) (hl : cs.length ≤ 1000) (e : H[n]? = some (.dK (kd cs))) : fPut b (.ref n) (nD c) (.bl true) H = some (H.set n (.dK (kd (if c ∈ cs then cs else cs ++ [c])))) := by
  unfold fPut
  simp only [e, asK_int]
  have hk : (kd cs).length < sizeLine := by unfold kd; rw [List.length_map]; exact szl (by omega)
  rw [if_pos hk, putO_own hb, putD_kd]
theorem items_kd (gs : List Nat) : ((kd gs).map fun p => kD p.1) = gs.map nD := by
  unfold kd
  rw [List.map_map]
  rfl
@[simp] theorem iKey_eq {x : ED} {τ : Fm} {h : Own} : iKey x τ h = (x τ h).bind fun d h1 => match d with
  | .ref n => match h1[n]? with
    | some (.lkK kds) => .ok (kds.map fun p => kD p.1, some (n, .lkK kds)) h1
    | some (.lkT kds) => .ok (kds.map fun p => .tup (p.1.map kD), some (n, .lkT kds)) h1
    | _ => .stuck
  | _ => .stuck := by
  unfold iKey
  rfl
theorem getD_kd (gs : List Nat) (k : Nat) : getD (kd gs) (Sum.inl (k : Int) : Key) = if k ∈ gs then some (.bl true) else none := by
  induction gs with
  | nil => rfl
  | cons g gs ih =>
    unfold getD kd at ih ⊢
    rw [List.map_cons, List.find?_cons]
    by_cases h : g = k
    · subst h
      simp
    · have : ((Sum.inl (g : Int) : Key) = Sum.inl (k : Int)) = False := by
        simp
        omega
      simp only [this, decide_false]
      rw [ih]
      have h' : k ≠ g := Ne.symm h
      simp [h']
theorem notIn_kd {H : Own} {n k : Nat} {gs : List Nat} (e : H[n]? = some (.dK (kd gs))) : fNotIn (nD k) (.ref n) H = .ok (.v (.bl (!gs.contains k))) H := by
  have h1 : fInQ true (nD k) (.ref n) H = .stuck := by
    unfold fInQ asQ asL
    simp [e]
  have h2 : fInK true (nD k) (.ref n) H = .ok (.v (.bl (!gs.contains k))) H := by
    unfold fInK askD asD
    have g := getD_kd gs k
    by_cases h : k ∈ gs
    · rw [if_pos h] at g
      simp [e, g, h]
    · rw [if_neg h] at g
      simp [e, g, h]
  show (match fInQ true (nD k) (.ref n) H with | .stuck => _ | z => z) = _
  rw [h1]
  dsimp only
  show (match fInK true (nD k) (.ref n) H with | .stuck => _ | z => z) = _
  rw [h2]
theorem W_step {a b : ST} {τ : Fm} {h h' : Own} {s' : Sl} {Q : SRes → Prop} (e : a τ h = .next s' h') (k : W (b ⟨τ.b, s'⟩ h') Q) : W (sSeq a b τ h) Q := by
  rw [W_seq, e]
  exact k
theorem W_stepW {a b : ST} {τ : Fm} {h : Own} {Q P : SRes → Prop} (e : W (a τ h) P) (k : ∀ r, P r → ∃ s' h', r = .next s' h' ∧ W (b ⟨τ.b, s'⟩ h') Q) : W (sSeq a b τ h) Q := by
  rw [W_seq]
  obtain ⟨s', h', e1, w⟩ := k _ e
  rw [e1]
  exact w
end Z
set_option Elab.async false
set_option linter.all false
set_option maxRecDepth 100000
/-! Z26: to compute with the newer constructs. -/
namespace Z
open PySem PySem.Spec L2
section
variable {τ : Fm} {h : Own} {c n : Nat} {x y : ST} {s : Sl}
@[simp] theorem sRaise_eq : sRaise c τ h = .exc c τ.s h := rfl
@[simp] theorem W_th_exc {b : ST} {k : Nat} {Q : SRes → Prop} : W (.exc c s h) (Th b k Q) = W (.exc c s h) Q := rfl
@[simp] theorem Th_exc {b : ST} {k : Nat} {Q : SRes → Prop} : Th b k Q (.exc c s h) = W (.exc c s h) Q := rfl
theorem sTry_exc {cs : List Nat} (e : x τ h = .exc c s h) (hc : c ∈ cs) : sTry cs x y τ h = nox (y ⟨τ.b, s⟩ h) := by
  unfold sTry
  rw [e]
  exact if_pos hc
theorem sTry_next {cs : List Nat} {h1 : Own} (e : x τ h = .next s h1) : sTry cs x y τ h = .next s h1 := by
  unfold sTry
  rw [e]
@[simp] theorem eMkX_eq {G : BD} {xs : EA} : eMkX c n G xs τ h = (xs τ h).bind fun ds h1 => if ds.length + 1 = n then
  (match G h1.length (.ref h1.length :: ds) (h1 ++ [.ins c []]) with
  | .next _ h3 => match h3[h1.length]? with
    | some (.ins c' fs) => if nrfs fs = true then .ok (.n (.ins c' fs)) (h3.take h1.length) else .stuck
    | _ => .stuck
  | .exc k _ h3 => .exc k (h3.take h1.length)
  | _ => .stuck) else .stuck := by
  unfold eMkX
  rfl
@[simp] theorem eDisp1_eq {k v : ED} : eDisp1 k v τ h = (k τ h).bind fun x h1 => (v τ h1).bind fun y h2 => match asKs x with
  | some ks => .ok (.n (.dT [(ks, y)])) h2
  | none => .stuck := by
  unfold eDisp1
  rfl
@[simp] theorem iEnA_eq {xs : EA} : iEnA xs τ h = (xs τ h).bind fun ds h1 => match ds with
  | [.lst ds] => .ok (enD ds, none) h1
  | [.tup ds] => .ok (enD ds, none) h1
  | [.ref n] => match h1[n]? with
    | some (.lst ds) => .ok (enD ds, some (n, .lst ds)) h1
    | _ => .stuck
  | _ => .stuck := by
  unfold iEnA
  rfl
@[simp] theorem iZp_eq {xs : EA} : iZp xs τ h = (xs τ h).bind fun ds h1 => match ds with
  | [.lst xs, .lst ys] => .ok (zipD xs ys, none) h1
  | _ => .stuck := by
  unfold iZp
  rfl
@[simp] theorem eDC_eq {it : EI} {g : ET} {t : EB} {kx vx : ED} {vs : List Nat} : eDC it g t kx vx vs τ h = (it τ h).bind fun p h1 => dcGo p.2 g t kx vx τ.b (Z.clr vs τ.s) p.1 h1 [] := rfl
@[simp] theorem tTup_eq {gs : ETs} {ds : List D} : tTup gs (.tup ds) τ h = gs ds τ h := rfl
@[simp] theorem tCons_eq {g : ET} {gs : ETs} {d : D} {ds : List D} : tCons g gs (d :: ds) τ h = (match g d τ h with
  | .next s h1 => gs ds ⟨τ.b, s⟩ h1
  | _ => .stuck) := by
  unfold tCons
  rfl
@[simp] theorem tNil_eq : tNil [] τ h = .next τ.s h := rfl
end
/-- the items of enumerate -/
theorem enD_map {α : Type} (f : α → D) (as : List α) : enD (as.map f) = (as.zipIdx).map fun p => .tup [.int (p.2 : Int), f p.1] := by
  unfold enD
  rw [List.zipIdx_map, List.map_map]
  rfl
/-- a dict comprehension of marks -/
theorem dc_kd {g : ET} {kx : ED} {b : Nat} {s : Sl} {h : Own} (as : List Nat) (cs : List Nat) (hs : ∀ a ∈ as, ∃ s1, g (nD a) ⟨b, s⟩ h = .next s1 h ∧ kx ⟨b, s1⟩ h = .ok (nD a) h) (hl : cs.length + as.length ≤ 1000000) :
    dcGo none g bYes kx (eC (.bl true)) b s (as.map nD) h (kd cs) = .ok (.n (.dK (kd (as.foldl (fun c a => if a ∈ c then c else c ++ [a]) cs)))) h := by
  induction as generalizing cs with
  | nil => simp [dcGo]
  | cons a as ih =>
    obtain ⟨s1, e1, e2⟩ := hs a List.mem_cons_self
    rw [List.map_cons]
    unfold dcGo
    rw [if_pos (by simp), e1]
    simp only [bYes_eq, e2, eC_eq, asK_int]
    rw [List.length_cons] at hl
    have h1 : (kd cs).length < sizeLine := by unfold kd; rw [List.length_map]; exact szl (by omega)
    rw [if_pos h1, putD_kd, ih _ (fun y hy => hs y (List.mem_cons_of_mem _ hy)) (by have : (if a ∈ cs then cs else cs ++ [a]).length ≤ cs.length + 1 := by { split <;> simp }; omega)]
    rfl
theorem mergeD_kd (cs : List Nat) : ∀ as : List Nat, mergeD (kd cs) (kd as) = kd (as.foldl (fun c a => if a ∈ c then c else c ++ [a]) cs)
  | [] => rfl
  | a :: as => by
    show mergeD (putD (kd cs) _ _) (kd as) = _
    rw [putD_kd, mergeD_kd _ as]
    rfl
theorem fSorted_kd' {H : Own} {n : Nat} {cs : List Nat} (nd : cs.Nodup) (hl : cs.length < 64) (e : H[n]? = some (.dK (kd cs))) : fSorted [.ref n] H = .ok (.n (.lst ((cs.mergeSort (· ≤ ·)).map nD))) H := by
  have e1 : isort (cs.map fun c : Nat => (c : Int)) = (cs.mergeSort (· ≤ ·)).map fun c : Nat => (c : Int) := by
    symm
    apply isort_uniq
    · exact (List.mergeSort_perm _ _).map _
    · have := List.pairwise_mergeSort (le := fun a b : Nat => decide (a ≤ b)) (fun a b c h1 h2 => by simp at *; omega) (fun a b => by simp; omega) cs
      rw [List.pairwise_map]
      exact this.imp fun h => by simp at h; omega
  have k1 : (kd cs).map (·.1) = (cs.map fun c : Nat => (c : Int)).map Sum.inl := by unfold kd; simp
  have hI : fSortI [.ref n] H = .stuck := by
    unfold fSortI asL
    simp [e]
  have hD : fSortD [.ref n] H = .ok (.n (.lst ((isort (cs.map fun c : Nat => (c : Int))).map .int))) H := by
    unfold fSortD asD
    simp only [e, k1, keyI_map]
    rw [if_pos (by simpa using hl)]
  show (match fSortI [.ref n] H with | .stuck => fSortD [.ref n] H | z => z) = _
  rw [hI]
  dsimp only
  rw [hD, e1, List.map_map]
  rfl
theorem fUpd_eq {H : Own} {b n : Nat} {kds more : List (Key × D)} (e : H[n]? = some (.dK kds)) (hl : kds.length + more.length ≤ 1000000) (hp : b ≤ n ∨ nrfO (.dK (mergeD kds more)) = true) :
    fUpd (.ref n) [.dK more] b H = .ok (.v .non) (H.set n (.dK (mergeD kds more))) := by
  unfold fUpd
  simp only [e]
  rw [if_pos (sz _ hl)]
  unfold putO
  rw [if_pos (hp.imp id .inl)]
theorem fSSet_eq {H : Own} {d : D} {ns : List Int} (e : asQ H d = some (ns.map .int)) (hl : ns.length < 64) : fSSet [d] H = .ok (.n (.lst ((sset ns).map .int))) H := by
  unfold fSSet
  simp only [e, asI_ints]
  rw [if_pos hl]
end Z
set_option Elab.async false
set_option linter.all false
set_option maxRecDepth 100000
/-! Z27: plain values, to a depth. -/
namespace Z
open PySem PySem.Spec L2
def pln : Nat → D → Bool
  | 0, _ => false
  | _ + 1, .non => true
  | _ + 1, .bl _ => true
  | _ + 1, .int _ => true
  | _ + 1, .str z => PyData.strOk z
  | k + 1, .tup ds => decide (ds.length ≤ 100000) && ds.all (pln k)
  | k + 1, .lst ds => decide (ds.length ≤ 100000) && ds.all (pln k)
  | _, _ => false
@[simp] theorem pln_non {k : Nat} : pln (k + 1) .non = true := rfl
@[simp] theorem pln_bl {k : Nat} {b : Bool} : pln (k + 1) (.bl b) = true := rfl
@[simp] theorem pln_int {k : Nat} {i : Int} : pln (k + 1) (.int i) = true := rfl
theorem pln_tup {k : Nat} {ds : List D} (hl : ds.length ≤ 100000) (h : ∀ d ∈ ds, pln k d = true) : pln (k + 1) (.tup ds) = true := by
  show (decide (ds.length ≤ 100000) && ds.all (pln k)) = true
  rw [decide_eq_true hl, List.all_eq_true.mpr h]
  rfl
theorem pln_lst {k : Nat} {ds : List D} (hl : ds.length ≤ 100000) (h : ∀ d ∈ ds, pln k d = true) : pln (k + 1) (.lst ds) = true := by
  show (decide (ds.length ≤ 100000) && ds.all (pln k)) = true
  rw [decide_eq_true hl, List.all_eq_true.mpr h]
  rfl
theorem pln_nDs {k : Nat} (w : List Nat) : ∀ d ∈ w.map nD, pln (k + 1) d = true := fun d hd => by
  obtain ⟨n, _, rfl⟩ := List.mem_map.mp hd
  rfl
theorem pln_wD {k : Nat} {w : List Nat} (hl : w.length ≤ 100000) : pln (k + 2) (wD w) = true := pln_tup (by simpa using hl) (pln_nDs w)
theorem pln_nL {k : Nat} {w : List Nat} (hl : w.length ≤ 100000) : pln (k + 2) (.lst (w.map nD)) = true := pln_lst (by simpa using hl) (pln_nDs w)
end Z
set_option Elab.async false
set_option linter.all false
set_option maxRecDepth 100000
/-! Z28: methods of the program's own classes; calls behind which the own heap stays whole. -/
namespace Z
open PySem PySem.Spec L2
/-- a call behind which nothing is cut -/
def callK (G : BD) (ds : List D) (h : Own) : Res R := match G h.length ds h with
  | .next _ h1 => .ok (.v .non) h1
  | .ret r h1 => .ok r h1
  | .exc c _ h1 => .exc c h1
  | _ => .stuck
/-- a call as of the law's own frame: it may store new things in old ones -/
def callE (b : Nat) (G : BD) (ds : List D) (h : Own) : Res R := if b = 0 then (match G 0 ds h with
  | .next _ h1 => .ok (.v .non) h1
  | .ret r h1 => .ok r h1
  | .exc c _ h1 => .exc c h1
  | _ => .stuck) else .stuck
section
variable {ca : Cn} {μ : List Addr} {F H : Hp} {h : Own}
theorem call_postK {n : Nat} {G : BD} {Wx : Nat → Hp → Prop} {b : Nat} {vs : List V} {ds : List D} {Q : VK} {E : XK} (R : RelH ca μ F h H) (hb : b ≤ h.length) (V1 : VRs ca μ F vs ds) (hn : ds.length = n)
    (hE : ∀ c H, Wx c H → E (.ref (ca.ad c)) none H) (p : PostG ca b μ F H h (callK G ds h) Wx fun r μ1 F1 H1 _ => ∀ v, RR ca μ1 F1 H H1 v r → Q v H1) : spB ca n G vs H Q E := by
  refine ⟨μ, F, h, ds, h.length, R, V1, hn, Nat.le_refl _, ?_⟩
  unfold callK at p
  cases hg : G h.length ds h with
  | next s h1 => rw [hg] at p; exact fun μ1 F1 H1 E1 R1 => p μ1 F1 H1 (E1.base hb) R1 .non (show VR ca _ _ _ _ from .non)
  | ret r h1 => rw [hg] at p; exact fun μ1 F1 H1 v E1 R1 V => p μ1 F1 H1 (E1.base hb) R1 v V
  | exc c s h1 => rw [hg] at p; exact fun μ1 F1 H1 E1 R1 => hE _ _ (p μ1 F1 H1 (E1.base hb) R1)
  | _ => rw [hg] at p; exact p.elim
theorem call_postE {n : Nat} {G : BD} {Wx : Nat → Hp → Prop} {b : Nat} {vs : List V} {ds : List D} {Q : VK} {E : XK} (R : RelH ca μ F h H) (V1 : VRs ca μ F vs ds) (hn : ds.length = n)
    (hE : ∀ c H, Wx c H → E (.ref (ca.ad c)) none H) (p : PostG ca b μ F H h (callE b G ds h) Wx fun r μ1 F1 H1 _ => ∀ v, RR ca μ1 F1 H H1 v r → Q v H1) : spB ca n G vs H Q E := by
  unfold callE at p
  by_cases hb : b = 0
  · rw [if_pos hb] at p
    subst hb
    refine ⟨μ, F, h, ds, 0, R, V1, hn, Nat.zero_le _, ?_⟩
    cases hg : G 0 ds h with
    | next s h1 => rw [hg] at p; exact fun μ1 F1 H1 E1 R1 => p μ1 F1 H1 E1 R1 .non (show VR ca _ _ _ _ from .non)
    | ret r h1 => rw [hg] at p; exact fun μ1 F1 H1 v E1 R1 V => p μ1 F1 H1 E1 R1 v V
    | exc c s h1 => rw [hg] at p; exact fun μ1 F1 H1 E1 R1 => hE _ _ (p μ1 F1 H1 E1 R1)
    | _ => rw [hg] at p; exact p.elim
  · rw [if_neg hb] at p; exact p.elim
end
/-- how a call is answered -/
abbrev CL := Nat → BD → List D → Own → Res R
def clN : CL := fun _ G ds h => callB G ds h
def clK : CL := fun _ G ds h => callK G ds h
def clE : CL := fun b G ds h => callE b G ds h
/-- what the three have in common -/
def ClOk (ca : Cn) (cl : CL) : Prop := ∀ {μ : List Addr} {F H : Hp} {h : Own} {n : Nat} {G : BD} {Wx : Nat → Hp → Prop} {b : Nat} {vs : List V} {ds : List D} {Q : VK} {E : XK}, RelH ca μ F h H → b ≤ h.length → VRs ca μ F vs ds → ds.length = n →
  (∀ c H, Wx c H → E (.ref (ca.ad c)) none H) → PostG ca b μ F H h (cl b G ds h) Wx (fun r μ1 F1 H1 _ => ∀ v, RR ca μ1 F1 H H1 v r → Q v H1) → spB ca n G vs H Q E
theorem clN_ok {ca : Cn} : ClOk ca clN := fun R hb V hn hE p => call_post R hb V hn hE p
theorem clK_ok {ca : Cn} : ClOk ca clK := fun R hb V hn hE p => call_postK R hb V hn hE p
theorem clE_ok {ca : Cn} : ClOk ca clE := fun R hb V hn hE p => call_postE R V hn hE p
section
variable {ca : Cn} {X : Cx} {W : WF} {pos : Pos} {e a b c : Expr}
/-- f(..) with the answer cl -/
def eCallC (cl : CL) (n : Nat) (G : BD) (xs : EA) : EX := fun τ h => (xs τ h).bind fun ds h1 => if ds.length = n then cl τ.b G ds h1 else .stuck
theorem se_callC {cl : CL} (co : ClOk ca cl) {f : Addr} {fd : FuncData} {ps : List Str} {k n : Nat} {G : BD} {x : Str} {p : Pos} {es : List Expr} {xs : EA} (hn : ps.length = n) (F : FnOk X.prog X.w X.K X.mg X.base (L2.CX X.prog X.w) k f fd ps (spB ca n G)) (hr : Room k X.A) (hg : Gl X x) (hm : X.mg x = some (.ref f))
    (hk : PySem.W.keepIn X.K (.ref f) = true) (hb : Binds X.K fd ps []) (tk : Takes X W) (ha : SA ca X W (e :: es) xs) (hdb : (x == ("__debug__" : Str)) = false) (he : starEach (e :: es) X.env = (false, eval e X.env) :: starEach es X.env)
    (hpl : (backTo pos (starEach es X.env)).any (·.1) = false) : SE ca X W (.Call (.Name x p) (e :: es) [] pos) (eCallC cl n G xs) := by
  subst hn
  exact PE.imp (pe_callS F hr hg hm hk hb (fun σ => passAt tk σ) ha hdb he hpl) fun σ H Q ⟨μ, F, τ, h, A, p⟩ => ⟨μ, F, τ, h, A, p.bind.imp fun ds μ1 F1 H1 h1 E1 R1 q vs Vs => by
    by_cases hn : ds.length = ps.length
    · rw [if_pos hn] at q
      exact co R1 (A.ext E1 R1).bl Vs hn (fun c H z => z) (q.imp fun r μ2 F2 H2 h2 E2 R2 q2 v V => q2 v (RR.back E1 V))
    · rw [if_neg hn] at q
      exact q.elim⟩
/-! ### o.m(..) -/
def isIns (c : Nat) (h : Own) : D → Bool
  | .obj c' _ => c' == c
  | .ref n => match h[n]? with
    | some (.ins c' _) => c' == c
    | _ => false
  | _ => false
theorem look_none : ∀ {fs : List (Str × V)} {m : Str}, m ∉ fs.map (·.1) → fs.lookup m = none
  | [], _, _ => rfl
  | (x, v) :: fs, m, h => by
    simp only [List.map_cons, List.mem_cons, not_or] at h
    rw [List.lookup_cons]
    have : (m == x) = false := by simpa using h.1
    rw [this]
    exact look_none h.2
theorem isIns_ok {c : Nat} {μ : List Addr} {F H : Hp} {h : Own} {v : V} {d : D} {m : Str} (R : RelH ca μ F h H) (V1 : VR ca μ F v d) (e : isIns c h d = true) (hm : m ∉ ca.nm c) : ∃ a dx fs, v = .ref a ∧ H a = some (.ins (ca.ad c) dx fs) ∧ fs.lookup m = none := by
  cases V1 with
  | obj q k r =>
    have e' : (_ == c) = true := e
    have e2 := eq_of_beq e'
    subst e2
    exact ⟨_, _, _, rfl, R.fz _ _ q, look_none fun z => hm (List.mem_of_mem_take (by rw [k] at z; exact z))⟩
  | ref q =>
    unfold isIns at e
    dsimp only at e
    split at e
    · rename_i c' fds q2
      have e2 := eq_of_beq e
      subst e2
      obtain ⟨dx, fs, q3, k, r⟩ := R.ob _ _ _ q q2
      exact ⟨_, dx, fs, rfl, q3, look_none fun z => hm (List.mem_of_mem_take (by rw [k] at z; exact z))⟩
    · cases e
  | _ => exact (Bool.false_ne_true e).elim
def tMethZ (C : Addr) (m : Str) (sp : Sp) (W : WF) (ta : TE) (t : TA) : TE := fun σ H Q => ta σ H fun x H1 => ∃ a dx fs, x = .ref a ∧ H1 a = some (.ins C dx fs) ∧ fs.lookup m = none ∧ t σ H1 fun vs H2 => sp (x :: vs) H2 Q (WE W σ)
section
variable {k : Nat} {f C : Addr} {fd : FuncData} {ps : List Str} {sp : Sp} {m : Str} {apos : Pos} {o : Expr} {es : List Expr} {ta : TE} {t : TA}
theorem pe_methZ {pl : Sem Bool} (he : PE X o ta) (c : Cls X.K C) (hm : Meth X.K C m f) (F : FnOk X.prog X.w X.K X.mg X.base (L2.CX X.prog X.w) k f fd ps sp) (hr : Room k X.A) (hb : Binds X.K fd ps []) (tk : Takes X W) (ha : PA X (e :: es) t)
    (hst : starEach (e :: es) X.env = (false, eval e X.env) :: starEach es X.env) (hpl : (backTo pos (starEach es X.env)).any (·.1) = false)
    (ht : eval (.Call (.Attribute o m apos) (e :: es) [] pos) X.env = (do
      let ov ← eval o X.env
      standAt apos.atName
      let (f, first) ← holding [ov] (getMethod ov m pl)
      callWith pos f first (backTo pos (starEach (e :: es) X.env)) (backToKw pos (keywordEach [] X.env)))) :
    PE X (.Call (.Attribute o m apos) (e :: es) [] pos) (tMethZ C m sp W ta t) := by
  refine ⟨fun pins s σ H Q I h => ?_⟩
  refine PySem.W.methodCall_KW (pl := pl) (thn (he.run pins s σ H _ I h) fun u s1 ⟨x, H1, I1, rx, a, dx, fs, ex, ea, l, q⟩ => ?_) ht
  subst ex
  obtain rfl : u = Value.ref a := rx
  refine getmeth_ok I1 ea c hm l ?_
  refine PySem.W.callWith_K (first := [.ref a]) (h₀ := X.base) I.ok.mod.kin hm.kp (thn (ha.run pos pins s1 σ H1 _ I1 q) fun us s2 ⟨vs, H2, I2, r, q2⟩ => ⟨I2.kIn, ?_⟩) hst hpl
  exact run_fnS (us := .ref a :: us) (vs := .ref a :: vs) F hr hb (passAt tk σ) I2 (.cons rfl r) q2
theorem pe_methZ0 {pl : Sem Bool} (he : PE X o ta) (c : Cls X.K C) (hm : Meth X.K C m f) (F : FnOk X.prog X.w X.K X.mg X.base (L2.CX X.prog X.w) k f fd ps sp) (hr : Room k X.A) (hb : Binds X.K fd ps []) (tk : Takes X W)
    (ht : eval (.Call (.Attribute o m apos) [] [] pos) X.env = (do
      let ov ← eval o X.env
      standAt apos.atName
      let (f, first) ← holding [ov] (getMethod ov m pl)
      callWith pos f first (backTo pos (starEach [] X.env)) (backToKw pos (keywordEach [] X.env)))) :
    PE X (.Call (.Attribute o m apos) [] [] pos) (tMethZ C m sp W ta L2.tNil) := by
  refine ⟨fun pins s σ H Q I h => ?_⟩
  refine PySem.W.methodCall_KW (pl := pl) (thn (he.run pins s σ H _ I h) fun u s1 ⟨x, H1, I1, rx, a, dx, fs, ex, ea, l, q⟩ => ?_) ht
  subst ex
  obtain rfl : u = Value.ref a := rx
  refine getmeth_ok I1 ea c hm l ?_
  exact PySem.W.callWith_K0 (first := [.ref a]) I1.kIn hm.kp (run_fnS (us := [.ref a]) (vs := [.ref a]) F hr hb (passAt tk σ) I1 (.cons rfl .nil) q)
end
def eMeth (cl : CL) (c n : Nat) (G : BD) (o : ED) (xs : EA) : EX := fun τ h => (o τ h).bind fun d h1 => if isIns c h1 d = true then ((xs τ h1).bind fun ds h2 => if ds.length + 1 = n then cl τ.b G (d :: ds) h2 else .stuck) else .stuck
/-- what a method's facts are -/
structure MtF (K : PySem.W.Frag) (ca : Cn) (c : Nat) (m : Str) (st : Stmt) (ps : List Str) (f : Addr) (fd : FuncData) : Prop where
  mt : Meth K (ca.ad c) m f
  no : m ∉ ca.nm c
  b : Binds K fd ps []
theorem se_meth {cl : CL} (co : ClOk ca cl) {cn n k : Nat} {f : Addr} {fd : FuncData} {ps : List Str} {G : BD} {m : Str} {st : Stmt} {apos : Pos} {o : Expr} {es : List Expr} {xo : ED} {xs : EA} {pl : Sem Bool} (hn : ps.length = n) (c : Cls X.K (ca.ad cn)) (M : MtF X.K ca cn m st ps f fd)
    (F : FnOk X.prog X.w X.K X.mg X.base (L2.CX X.prog X.w) k f fd ps (spB ca n G)) (hr : Room k X.A) (tk : Takes X W) (ho : SD ca X W o xo) (ha : SA ca X W (e :: es) xs)
    (hst : starEach (e :: es) X.env = (false, eval e X.env) :: starEach es X.env) (hpl : (backTo pos (starEach es X.env)).any (·.1) = false)
    (ht : eval (.Call (.Attribute o m apos) (e :: es) [] pos) X.env = (do
      let ov ← eval o X.env
      standAt apos.atName
      let (f, first) ← holding [ov] (getMethod ov m pl)
      callWith pos f first (backTo pos (starEach (e :: es) X.env)) (backToKw pos (keywordEach [] X.env)))) :
    SE ca X W (.Call (.Attribute o m apos) (e :: es) [] pos) (eMeth cl cn n G xo xs) :=
  PE.imp (pe_methZ ho c M.mt F hr M.b tk ha hst hpl ht) fun σ H Q ⟨μ, F, τ, h, A, p⟩ => ⟨μ, F, τ, h, A, p.bind.imp fun d μ1 F1 H1 h1 E1 R1 q v V => by
    by_cases hi : isIns cn h1 d = true
    · rw [if_pos hi] at q
      obtain ⟨a, dx, fs, e1, e2, e3⟩ := isIns_ok R1 V hi M.no
      refine ⟨a, dx, fs, e1, e2, e3, μ1, F1, τ, h1, A.ext E1 R1, q.bind.imp fun ds μ2 F2 H2 h2 E2 R2 q2 vs Vs => ?_⟩
      by_cases hn : ds.length + 1 = n
      · rw [if_pos hn] at q2
        exact co R2 ((A.ext E1 R1).ext E2 R2).bl (.cons (E2.vr V) Vs) (by rw [List.length_cons]; exact hn) (fun c H z => z) (q2.imp fun r μ3 F3 H3 h3 E3 R3 q3 u V3 => q3 u (RR.back E1 (RR.back E2 V3)))
      · rw [if_neg hn] at q2
        exact q2.elim
    · rw [if_neg hi] at q
      exact q.elim⟩
theorem se_meth0 {cl : CL} (co : ClOk ca cl) {cn n k : Nat} {f : Addr} {fd : FuncData} {ps : List Str} {G : BD} {m : Str} {st : Stmt} {apos : Pos} {o : Expr} {xo : ED} {pl : Sem Bool} (hn : ps.length = n) (c : Cls X.K (ca.ad cn)) (M : MtF X.K ca cn m st ps f fd)
    (F : FnOk X.prog X.w X.K X.mg X.base (L2.CX X.prog X.w) k f fd ps (spB ca n G)) (hr : Room k X.A) (tk : Takes X W) (ho : SD ca X W o xo)
    (ht : eval (.Call (.Attribute o m apos) [] [] pos) X.env = (do
      let ov ← eval o X.env
      standAt apos.atName
      let (f, first) ← holding [ov] (getMethod ov m pl)
      callWith pos f first (backTo pos (starEach [] X.env)) (backToKw pos (keywordEach [] X.env)))) :
    SE ca X W (.Call (.Attribute o m apos) [] [] pos) (eMeth cl cn n G xo aNil) :=
  PE.imp (pe_methZ0 ho c M.mt F hr M.b tk ht) fun σ H Q ⟨μ, F, τ, h, A, p⟩ => ⟨μ, F, τ, h, A, p.bind.imp fun d μ1 F1 H1 h1 E1 R1 q v V => by
    by_cases hi : isIns cn h1 d = true
    · rw [if_pos hi] at q
      obtain ⟨a, dx, fs, e1, e2, e3⟩ := isIns_ok R1 V hi M.no
      have q2 : PostG ca τ.b μ1 F1 H1 h1 (if 0 + 1 = n then cl τ.b G [d] h1 else .stuck) (wx ca W σ) (fun r μ2 F2 H2 _ => ∀ v, RR ca μ2 F2 H H2 v r → Q v H2) := q
      refine ⟨a, dx, fs, e1, e2, e3, ?_⟩
      show spB ca n G [v] H1 Q (WE W σ)
      by_cases hn : 0 + 1 = n
      · rw [if_pos hn] at q2
        exact co R1 (A.ext E1 R1).bl (.cons V .nil) hn (fun c H z => z) (q2.imp fun r μ3 F3 H3 h3 E3 R3 q3 u V3 => q3 u (RR.back E1 V3))
      · rw [if_neg hn] at q2
        exact q2.elim
    · rw [if_neg hi] at q
      exact q.elim⟩
/-! ### C(..) whose instance holds own things -/
def eMkK (c n : Nat) (G : BD) (xs : EA) : EX := fun τ h => (xs τ h).bind fun ds h1 => if ds.length + 1 = n then
  (match G h1.length (.ref h1.length :: ds) (h1 ++ [.ins c []]) with
  | .next _ h3 => .ok (.v (.ref h1.length)) h3
  | .exc k _ h3 => .exc k h3
  | _ => .stuck) else .stuck
theorem se_mkK {C f : Addr} {cn n : Nat} {fd : FuncData} {ps : List Str} {k : Nat} {G : BD} {x : Str} {p : Pos} {es : List Expr} {xs : EA} (hn : ps.length = n) (hC : ca.ad cn = C) (M : Mk X.K C f) (F : FnOk X.prog X.w X.K X.mg X.base (L2.CX X.prog X.w) k f fd ps (spB ca n G)) (hr : Room (k + 1) X.A)
    (hg : Gl X x) (hm : X.mg x = some (.ref C)) (hb : Binds X.K fd ps []) (tk : Takes X W) (ha : SA ca X W (e :: es) xs) (hdb : (x == ("__debug__" : Str)) = false) (he : starEach (e :: es) X.env = (false, eval e X.env) :: starEach es X.env)
    (hpl : (backTo pos (starEach es X.env)).any (·.1) = false) : SE ca X W (.Call (.Name x p) (e :: es) [] pos) (eMkK cn n G xs) :=
  PE.imp (pe_makeS M F hr hg hm hb (fun σ => passAt tk σ) ha hdb he hpl) fun σ H Q ⟨μ, F, τ, h, A, p⟩ => ⟨μ, F, τ, h, A, p.bind.imp fun ds μ1 F1 H1 h1 E1 R1 q vs Vs => by
    intro x dx hx hdx hne
    have A1 := A.ext E1 R1
    by_cases hn : ds.length + 1 = n
    · rw [if_pos hn] at q
      have hne' : H1 x = none → upd H1 dx (.own x) x = none := fun z => by rw [upd_ne (Ne.symm hne)]; exact z
      have Ea : Ext h1.length μ1 F1 H1 h1 μ1 F1 (upd (upd H1 dx (.own x)) x (.ins C dx [])) h1 := (Ext.refl.upd hdx).upd (hne' hx)
      have Ra : RelH ca μ1 F1 h1 (upd (upd H1 dx (.own x)) x (.ins C dx [])) := (R1.upd hdx).upd (hne' hx)
      have hxm : x ∉ μ1 := fun z => R1.dom x z hx
      have hxF : F1 x = none := by
        cases q : F1 x with
        | none => rfl
        | some w => exact absurd (R1.fz _ _ q) (by rw [hx]; exact fun z => nomatch z)
      have E2 : Ext h1.length μ1 F1 H1 h1 (μ1 ++ [x]) F1 (upd (upd H1 dx (.own x)) x (.ins C dx [])) (h1 ++ [.ins cn []]) := Ea.alloc hx (Nat.le_refl _)
      have R2 : RelH ca (μ1 ++ [x]) F1 (h1 ++ [.ins cn []]) (upd (upd H1 dx (.own x)) x (.ins C dx [])) := Ra.alloc (by rw [upd_same]; simp) hxm hxF ⟨dx, [], by rw [upd_same, hC], rfl, .nil⟩
      have ix : (μ1 ++ [x])[h1.length]? = some x := by rw [← R1.len]; simp
      refine ⟨μ1 ++ [x], F1, h1 ++ [.ins cn []], .ref h1.length :: ds, h1.length, R2, .cons (.ref ix) (E2.vrs Vs), by rw [List.length_cons]; exact hn, by simp, ?_⟩
      cases hG : G h1.length (.ref h1.length :: ds) (h1 ++ [.ins cn []]) with
      | next s h3 =>
        rw [hG] at q
        intro μ3 F3 H3 E3 R3
        refine ⟨rfl, ?_⟩
        exact q μ3 F3 H3 ((E2.trans E3).base A1.bl) R3 (.ref x) (show VR ca _ _ _ _ from .ref (E3.ix _ _ ix))
      | exc k' s h3 =>
        rw [hG] at q
        intro μ3 F3 H3 E3 R3
        exact q μ3 F3 H3 ((E2.trans E3).base A1.bl) R3
      | _ => rw [hG] at q; exact q.elim
    · rw [if_neg hn] at q; exact q.elim⟩
end
end Z
set_option Elab.async false
set_option linter.all false
set_option maxRecDepth 100000
set_option maxHeartbeats 2000000
/-! Z29: a lambda without parameters handed to a def. -/
namespace Z
open PySem PySem.Spec PyProof.Rows L2 LamX
/-- all but one address stays -/
def Stay1 (P : Addr) (H H' : Hp) : Prop := ∀ b o, H b = some o → b ≠ P → H' b = some o
section
variable {X : Cx} {pins : List (Addr × Obj)} {σ : L2.St} {H : Hp} {s : Shared}
/-- the lambda is made; but for its maker's table nothing known goes -/
theorem lam_make {c P : Addr} {q : Str} {params : Arguments} {body : Expr} {scope : Scope} {pos : Pos} {E : Value → Shared → Prop} {Q : Value → Shared → Prop} (I : Inv X pins σ H s) (TB : TabB X.base X.mg c P) (hcode : X.env.code = .ref c) (hq : X.env.qual ++ "<lambda>" = q)
    (hT : TabS H P q) (hdef : defaultsOf params X.env = ([], [])) (hfree : ∀ y ∈ scope.names, y.2 = .free → ∃ c, X.env.cells.lookup y.1 = some c)
    (h : ∀ (f c' : Addr) (pm ctv : Value) (H1 : Hp) (s' : Shared), Inv X pins σ H1 s' → Stay1 P H H1 → TabS H1 P q →
      s'.heap.get? f = some (PySem.W.kla_obj "<lambda>" q params body scope (cloFrom X.env.cells scope.names []) pm c' ctv) → H1 f = none → f ∉ frs X.stack → H1 c' = some (CodeO c' q) → Q (.ref f) s') :
    wpAny (model X.prog X.w) X.A (eval (.Lambda params body scope pos) X.env) Q E s := by
  subst hq
  obtain ⟨ps, tabH, trip, among⟩ := hT
  have bP : s.heap.BuiltinsAt X.mg P := TB.bm.keeps I.bk
  have tabh : s.heap.get? P = some { cls := .none, data := .fields ps } := I.hok P _ tabH
  have apart : ∀ f, s.heap.objs.size ≤ f → f ∉ frs X.stack := by
    intro f hf z
    rcases List.mem_cons.mp (I.stkSub _ z) with e | e
    · have := I.lt
      rw [← e] at this
      exact Nat.lt_irrefl _ (Nat.lt_of_lt_of_le this hf)
    · exact I.nofs hf e
  refine PySem.W.kla_eval hdef ?_
  cases hc : codeAmong pos ps.toList with
  | some cv =>
    obtain ⟨c', e, known⟩ := among pos cv hc
    subst e
    refine PySem.W.kla_makeFunctionHit (mg := X.mg) (c := c) (P := P) (ps := ps) (closure_ok hfree) I.ok.glob (I.mod.glob.keeps I.bk) hcode (TB.code.keeps I.bk) tabh trip hc bP fun ctv h' tk grow hsz => ?_
    have I' : Inv X pins σ H { s with heap := h'.push (PySem.W.kla_obj "<lambda>" (X.env.qual ++ "<lambda>") params body scope (cloFrom X.env.cells scope.names []) ((X.mg "__name__").getD .none) c' ctv), toks := tk } :=
      I.kept fun b o e => Heap.get?_push_of_some _ (grow b o e)
    exact h h'.objs.size c' _ ctv H _ I' (fun _ _ e _ => e) ⟨ps, tabH, trip, among⟩ (Heap.get?_push_size _ rfl) (I.hok.fresh hsz) (apart _ hsz) known
  | none =>
    refine PySem.W.kla_makeFunction (mg := X.mg) (c := c) (P := P) (ps := ps) (closure_ok hfree) I.ok.glob (I.mod.glob.keeps I.bk) hcode (TB.code.keeps I.bk) tabh trip hc TB.gP bP fun c' ctv h' tk grow hge hlt hrec htb => ?_
    obtain ⟨_, oc, vs, t, e2, hoc, hd, hv⟩ := hrec
    cases e2
    have size_le : s.heap.objs.size ≤ h'.objs.size := Nat.le_trans hge (Nat.le_of_lt hlt)
    have newC : H c' = none := I.hok.fresh hge
    have PnC : P ≠ c' := ne_of_none tabH newC
    have I' := inv_table (t' := tk) (more := #[rawInt pos.line, rawInt pos.col, .ref c']) (h' := h'.push (PySem.W.kla_obj "<lambda>" (X.env.qual ++ "<lambda>") params body scope (cloFrom X.env.cells scope.names []) ((X.mg "__name__").getD .none) c' ctv)) I tabH
      (fun b o hb e => Heap.get?_push_of_some _ (grow b o hb e)) (Heap.get?_push_of_some _ htb) hge ⟨oc, vs, t, Heap.get?_push_of_some _ hoc, hd, hv⟩
    have st : Stay1 P H (upd (upd H P (.tbl (ps ++ #[rawInt pos.line, rawInt pos.col, .ref c']))) c' (CodeO c' (X.env.qual ++ "<lambda>"))) := fun b o e n => by
      rw [upd_ne (ne_of_none e newC), upd_ne n]
      exact e
    have flat : (ps ++ #[rawInt pos.line, rawInt pos.col, .ref c']).toList = ps.toList ++ [rawInt pos.line, rawInt pos.col, .ref c'] := by simp
    refine h h'.objs.size c' _ ctv _ _ I' st ⟨_, by rw [upd_ne PnC, upd_same], by rw [flat]; exact PySem.TriplesOk_snoc _ _ _ _ trip, fun p' cv hcv => ?_⟩ (Heap.get?_push_size _ rfl) ?_ (apart _ size_le) upd_same
    · rw [flat] at hcv
      rcases among_app _ trip hcv with z | z
      · obtain ⟨c0, e1, e2⟩ := among p' cv z
        refine ⟨c0, e1, st _ _ e2 fun z => ?_⟩
        rw [z, tabH] at e2
        exact codeO_ne ps (Option.some.inj e2).symm
      · exact ⟨c', z, upd_same⟩
    · rw [upd_ne (Nat.ne_of_gt hlt), upd_ne (Nat.ne_of_gt (Nat.lt_of_lt_of_le (Heap.lt_size tabh) size_le))]
      exact I.hok.fresh size_le
end
def tLam1 (P : Addr) (q : Str) (TT : (XK → Hp → VK → Prop) → Hp → VK → Prop) (t : XK → TE) : TE := fun σ H Q => TabS H P q ∧ ∀ H1, Stay1 P H H1 → TabS H1 P q → TT (fun E H' Q' => t E σ H' Q') H1 Q
/-- what is known of the def x that gets the lambda, a: its parameter -/
structure Gets (X : Cx) (x a : Str) (k : Nat) (TT : (XK → Hp → VK → Prop) → Hp → VK → Prop) (q : Str) : Prop where
  ex : ∃ (g : Addr) (pg : Arguments) (bg : List Stmt) (sg : Scope) (dV kV doc pm cdv ct oc : Value) (an od : Option Addr) (osl : Array (Option Value)) (Ng : List Str),
    X.mg x = some (.ref g) ∧ PySem.W.keepIn X.K (.ref g) = true ∧ X.K.lookup g = some ⟨oc, od, .func (PySem.W.fnOf x x pg bg sg dV kV doc pm an cdv ct), osl⟩ ∧ PySem.W.codeIn X.K cdv x = true ∧
    Binds X.K (PySem.W.fnOf x x pg bg sg dV kV doc pm an cdv ct) [a] [] ∧ FnScope Ng [a] sg ∧ Ng[0]? = some a ∧ Vis sg a ∧ GivesTo X Ng x sg g cdv bg a q TT
section
variable {X : Cx}
theorem pe_lam {TT : (XK → Hp → VK → Prop) → Hp → VK → Prop} {x a q : Str} {c P : Addr} {k : Nat} {params : Arguments} {body : Expr} {scope : Scope} {t : XK → TE} {p lpos pos : Pos} (hg : Gl X x) (G : Gets X x a k TT q)
    (TB : TabB X.base X.mg c P) (hcode : X.env.code = .ref c) (hq : X.env.qual ++ "<lambda>" = q) (hr : Room (k + 2) X.A) (L : LamS X.env.scope scope) (hdef : defaultsOf params X.env = ([], []))
    (hbind : ∀ (q : Str) (cl : List (Str × Addr)) (pm cv ctv : Value), bindArgs (PySem.W.kla_fn "<lambda>" q params body scope cl pm cv ctv) ⟨[], []⟩ = pure [])
    (hbody : ∀ (A : Around) (outer : List Env) (s : Shared) (H : Hp) (E : XK) (f c' : Addr), Room k (A.deeper (lamEnv X scope s.heap.objs.size f c')) → PE (lamCx X A outer s H E scope f c') body (t E))
    (hdb : (x == ("__debug__" : Str)) = false) (hd : (a == ("__debug__" : Str)) = false) (hcd : (a == ("__classdict__" : Str)) = false) :
    PE X (.Call (.Name x p) [.Lambda params body scope lpos] [] pos) (tLam1 P q TT t) := by
  obtain ⟨g, pg, bg, sg, dV, kV, doc, pm, cdv, ct, oc, an, od, osl, Ng, hm, hk, lk, hcg, hb, Sg, hNg, hva, hG⟩ := G.ex
  subst hq
  refine ⟨fun pins s σ H Q I h => ?_⟩
  obtain ⟨hT, h⟩ := h
  refine wpAny_Call_Name_kw (ld_glob I hg hm ?_ hdb)
  refine PySem.W.callWith_K (h₀ := X.base) I.ok.mod.kin hk ?_ (by rfl) (by rfl)
  show wpAny _ _ (spliced ((false, eval (.Lambda params body scope lpos) X.env) :: backTo pos (starEach [] X.env))) _ _ s
  refine Calls.spliced_cons (lam_make I TB hcode rfl hT hdef (L.has I.ok) fun f c' pm' ctv H1 s' I1 st T1 hf hfn hfr hco => ?_)
  refine Calls.spliced_nil ⟨I1.kIn, ?_⟩
  have rc : codeAny (model X.prog X.w) X.A (.call (.ref g) ⟨[.ref f], []⟩) (CR C8.CX0 X.stack X.prog X.w H1 s' Q C8.E0) s' := by
    refine run_ofS (N := Ng) (ps := [a]) (us := [.ref f]) (vs := [.ref f]) lk hcg Sg hr I1.env0 (hb s' [.ref f] I1.kIn rfl) (.cons rfl .nil) rfl fun hr' => ?_
    obtain ⟨t', ht', hq'⟩ := hG f c' s' H1 Q (fun E H' Q' => t E σ H' Q') (fun W pn xe E p1 p2 tk hW => pe_act (i := 0) I1 L hf hfn hfr (hbind _ _ _ _ _) tk hW hr' (fun A outer s H hr2 => hbody A outer s H E f c' hr2) hNg hva hd hcd) hco (h H1 st T1)
    exact ⟨t', ht'.nox, hq'⟩
  refine wpAny_call (codeAny_mono rc fun r s2 hq => ?_)
  cases r with
  | error e => exact (show False from hq).elim
  | ok fl =>
    cases fl with
    | ret u => exact I1.after hq
    | next => exact False.elim hq
    | brk => exact False.elim hq
    | cont => exact False.elim hq
end
/-! ### the three defs that get lambdas -/
/-- try: a() / except e: return b1; return b2 -/
def TCode (K : PySem.W.Frag) (CS : Addr) (b1 b2 : Bool) : (XK → Hp → VK → Prop) → Hp → VK → Prop := fun tl H Q =>
  tl (fun cls _ H' => ∃ b, PySem.W.exmOne K cls (.ref CS) = some b ∧ (b = true → Q (.bl b1) H') ∧ (b = false → False)) H (fun _ H' => Q (.bl b2) H')
/-- try: return a() / except e1: return r1 / except e2: return r2 -/
def TTold2 (K : PySem.W.Frag) (C1 C2 : Addr) (r1 r2 : Str) : (XK → Hp → VK → Prop) → Hp → VK → Prop := fun tl H Q =>
  tl (fun cls _ H' => ∃ b, PySem.W.exmOne K cls (.ref C1) = some b ∧ (b = true → Q (.str r1) H') ∧ (b = false → ∃ b', PySem.W.exmOne K cls (.ref C2) = some b' ∧ (b' = true → Q (.str r2) H') ∧ (b' = false → False))) H Q
section
variable {X : Cx}
theorem code_gives {Ng : List Str} {x a e q : Str} {b1 b2 : Bool} {sg : Scope} {g CS : Addr} {cdg : Value} {j1 j2 : Nat} {p1 p2 p3 p4 p5 p6 p7 p8 p9 p10 : Pos} {c1 c2 : Expr} (hc1 : c1 = .Constant (.bool b1) j1 p5) (hc2 : c2 = .Constant (.bool b2) j2 p9)
    (hge : sg.names.lookup e = some .globalImplicit) (hme : X.mg e = some (.ref CS)) (hde : (e == ("__debug__" : Str)) = false) (h0 : ∀ f : Addr, (L2.start Ng [V.ref f])[0]? = some (some (V.ref f))) :
    GivesTo X Ng x sg g cdg [.Try [.Expr (.Call (.Name a p1) [] [] p2) p3] [.ExceptHandler (some (.Name e p4)) none [.Return (some c1) p6] p7] [] [] p8, .Return (some c2) p10] a q (TCode X.K CS b1 b2) := by
  subst hc1 hc2
  intro f c' s H Q tl act hc h
  have hgl : Gl (cxOf C8.CX0 X.prog X.w X.K X.mg X.base Ng x sg g cdg X.A X.stack s H C8.E0).nox e := hge
  refine ⟨_, pss_cons (ps_try_only (X := (cxOf C8.CX0 X.prog X.w X.K X.mg X.base Ng x sg g cdg X.A X.stack s H C8.E0).nox) (c := .ref CS)
      (tb := fun W D σ H => ∃ Ech : XK, (∀ cls d σ' H', Ech cls d H' → W cls d σ' H') ∧ σ[0]? = some (some (.ref f)) ∧ H c' = some (CodeO c' q) ∧ tl Ech H fun _ H' => D.nx σ H')
      rfl rfl ⟨hgl, hde, .inl hme⟩ L2.takes0 (fun W pn xe tk _ => ?_) (fun a oe cls d pn _ _ => pss_one (ps_ret pe_bl))) (pss_one (ps_ret pe_bl)), ?_⟩
  · refine ⟨fun pins s' σ H' D I h' => ?_⟩
    obtain ⟨Ech, hW, h1, h2, h3⟩ := h'
    have hp := act W pn xe Ech p1 p2 tk hW
    have hq := pss_one (ps_expr (pos := p3) hp)
    exact hq.run pins s' σ H' D I ⟨h1, h2, h3⟩
  · exact ⟨fun cls _ H' => ∃ b, PySem.W.exmOne X.K cls (.ref CS) = some b ∧ (b = true → Q (.bl b1) H') ∧ (b = false → False), fun cls d σ' H' ⟨b, e1, e2, e3⟩ => ⟨b, e1, fun hb a _ => e2 hb, fun hb => e3 hb⟩, h0 f, hc, h⟩
theorem told_gives2 {Ng : List Str} {x a e1 e2 q r1 r2 : Str} {sg : Scope} {g C1 C2 : Addr} {cdg : Value} {j1 j2 : Nat} {p1 p2 p3 p4 p5 p6 p7 p8 p9 p10 p11 p12 : Pos} {k1 k2 : Expr} (hk1 : k1 = .Constant (.str r1) j1 p5) (hk2 : k2 = .Constant (.str r2) j2 p9)
    (hg1 : sg.names.lookup e1 = some .globalImplicit) (hm1 : X.mg e1 = some (.ref C1)) (hd1 : (e1 == ("__debug__" : Str)) = false) (hg2 : sg.names.lookup e2 = some .globalImplicit) (hm2 : X.mg e2 = some (.ref C2)) (hd2 : (e2 == ("__debug__" : Str)) = false)
    (h0 : ∀ f : Addr, (L2.start Ng [V.ref f])[0]? = some (some (V.ref f))) :
    GivesTo X Ng x sg g cdg [.Try [.Return (some (.Call (.Name a p1) [] [] p2)) p3] [.ExceptHandler (some (.Name e1 p4)) none [.Return (some k1) p6] p7, .ExceptHandler (some (.Name e2 p8)) none [.Return (some k2) p10] p11] [] [] p12] a q (TTold2 X.K C1 C2 r1 r2) := by
  subst hk1 hk2
  intro f c' s H Q tl act hc h
  have n1 : Names (cxOf C8.CX0 X.prog X.w X.K X.mg X.base Ng x sg g cdg X.A X.stack s H C8.E0).nox e1 (.ref C1) := ⟨hg1, hd1, .inl hm1⟩
  have n2 : Names (cxOf C8.CX0 X.prog X.w X.K X.mg X.base Ng x sg g cdg X.A X.stack s H C8.E0).nox e2 (.ref C2) := ⟨hg2, hd2, .inl hm2⟩
  refine ⟨_, pss_one (ps_try_many (X := (cxOf C8.CX0 X.prog X.w X.K X.mg X.base Ng x sg g cdg X.A X.stack s H C8.E0).nox)
      (tb := fun W D σ H => ∃ Ech : XK, (∀ cls d σ' H', Ech cls d H' → W cls d σ' H') ∧ σ[0]? = some (some (.ref f)) ∧ H c' = some (CodeO c' q) ∧ tl Ech H D.rt)
      rfl rfl L2.takes0 (fun W pn xe tk _ => ?_) (.cons n1 (fun a oe cls d pn _ _ => pss_one (ps_ret pe_str)) (.cons n2 (fun a oe cls d pn _ _ => pss_one (ps_ret pe_str)) .nil))), ?_⟩
  · refine ⟨fun pins s' σ H' D I h' => ?_⟩
    obtain ⟨Ech, hW, h1, h2, h3⟩ := h'
    have hp := act W pn xe Ech p1 p2 tk hW
    have hq := pss_one (ps_ret (pos := p3) hp)
    exact hq.run pins s' σ H' D I ⟨h1, h2, h3⟩
  · refine ⟨_, fun cls d σ' H' ⟨b, e1, e2, e3⟩ => ⟨b, e1, fun hb a _ => e2 hb, fun hb => ?_⟩, h0 f, hc, h⟩
    obtain ⟨b', f1, f2, f3⟩ := e3 hb
    exact ⟨b', f1, fun hb a _ => f2 hb, fun hb => (f3 hb).elim⟩
end
end Z
set_option Elab.async false
set_option linter.all false
set_option maxRecDepth 100000
set_option maxHeartbeats 2000000
/-! Z30: lambdas in the own semantics. -/
namespace Z
open PySem PySem.Spec PyProof.Rows L2 LamX
section
variable {ca : Cn} {μ : List Addr} {F H H1 : Hp} {h : Own}
theorem codeO_lst {c : Addr} {q : Str} {vs : List V} : HO.lst vs ≠ CodeO c q := fun z => by unfold CodeO at z; cases z
theorem OR.noCode {a b : Addr} {o : O} {q : Str} (r : OR ca μ F H a o) (n0 : o ≠ .dead) (e : H a = some (CodeO b q)) : False := by
  cases o with
  | dead => exact n0 rfl
  | lst _ => obtain ⟨_, q, _⟩ := r; rw [e] at q; unfold CodeO at q; cases q
  | dK _ => obtain ⟨_, q, _⟩ := r; rw [e] at q; unfold CodeO at q; cases q
  | dT _ => obtain ⟨_, q, _⟩ := r; rw [e] at q; unfold CodeO at q; cases q
  | ins _ _ => obtain ⟨_, _, q, _⟩ := r; rw [e] at q; unfold CodeO at q; cases q
  | lkK _ => obtain ⟨_, _, q, _⟩ := r; rw [e] at q; unfold CodeO at q; cases q
  | lkT _ => obtain ⟨_, _, q, _⟩ := r; rw [e] at q; unfold CodeO at q; cases q
  | tb _ => obtain ⟨_, _, q, _⟩ := r; rw [e] at q; unfold CodeO at q; cases q
/-- the own table as HandS knows it -/
theorem tab_of {j : Nat} {P : Addr} {q : Str} (R : RelH ca μ F h H) (hj : h[j]? = some (.tb j)) (hp : ca.tb j = (P, q)) : μ[j]? = some P ∧ TabS H P q ∧ F P = none := by
  have hl : j < μ.length := by rw [R.len]; exact (List.getElem?_eq_some_iff.mp hj).1
  have hm := List.getElem?_eq_getElem hl
  have o := R.ob j _ _ hm hj
  obtain ⟨e0, ps, e, trip, among⟩ := o
  rw [hp] at e0 among
  have e0' : μ[j] = P := e0
  rw [e0'] at hm e
  refine ⟨hm, ⟨ps, e, trip, fun pos cv hc => ?_⟩, R.sep j P _ hm hj (fun z => nomatch z)⟩
  obtain ⟨c, e1, e2⟩ := among pos cv hc
  exact ⟨c, e1, R.fz _ _ e2⟩
open Classical in
theorem shift_tab {j : Nat} {P : Addr} {q : Str} (R : RelH ca μ F h H) (hj : h[j]? = some (.tb j)) (hp : ca.tb j = (P, q)) (st : Stay1 P H H1) (T1 : TabS H1 P q) : ∃ F', RelH ca μ F' h H1 ∧ ∀ b, Ext b μ F H h μ F' H1 h := by
  obtain ⟨mP, T0, FP⟩ := tab_of R hj hp
  obtain ⟨ps1, t1, trip1, among1⟩ := T1
  have nF : ∀ b u, F b = some u → b ≠ P := fun b u e z => by rw [z, FP] at e; cases e
  have keepF : ∀ b u, F b = some u → H1 b = some u := fun b u e => st b u (R.fz _ _ e) (nF b u e)
  have PC : ∀ a q', H1 a = some (CodeO a q') → a ≠ P := fun a q' e z => by
    rw [z] at e
    rw [t1] at e
    exact codeO_ne ps1 (Option.some.inj e).symm
  let F' : Hp := fun b => if ∃ q', H1 b = some (CodeO b q') then H1 b else F b
  have hF' : ∀ b, F' b = if ∃ q', H1 b = some (CodeO b q') then H1 b else F b := fun _ => rfl
  have sF : Same F F' := fun b u e => by
    rw [hF']
    split
    · exact keepF b u e
    · exact e
  have fz : Same F' H1 := fun b u e => by
    rw [hF'] at e
    split at e
    · exact e
    · exact keepF b u e
  have inμ : P ∈ μ := List.mem_of_getElem? mP
  refine ⟨F', ⟨R.len, R.nd, fz, fun n a o e1 e2 e3 => ?_, fun a ha => ?_, fun n a o e1 e2 => ?_⟩, fun b => ⟨⟨[], by simp, by simp⟩, sF, fun a o e hm => st a o e (by rintro rfl; exact hm inμ), fun a e => ?_, fun a e => ?_, fun _ _ _ e => .inl e, fun n a o e1 e2 e3 => ⟨e2, fun u e => ?_⟩⟩⟩
  · rw [hF']
    split
    · rename_i z
      obtain ⟨q', z⟩ := z
      have ne := PC a q' z
      have hd := R.dom a (List.mem_of_getElem? e1)
      cases ha : H a with
      | none => exact absurd ha hd
      | some u =>
        have := st a u ha ne
        rw [z] at this
        cases this
        exact ((R.ob n a o e1 e2).noCode e3 ha).elim
    · exact R.sep n a o e1 e2 e3
  · by_cases hP : a = P
    · rw [hP, t1]; simp
    · have hd := R.dom a ha
      cases e : H a with
      | none => exact absurd e hd
      | some u => rw [st a u e hP]; simp
  · by_cases hP : a = P
    · subst hP
      have hn : n = j := by
        obtain ⟨l1, q1⟩ := List.getElem?_eq_some_iff.mp e1
        obtain ⟨l2, q2⟩ := List.getElem?_eq_some_iff.mp mP
        exact (List.getElem_inj R.nd).mp (q1.trans q2.symm)
      subst hn
      rw [hj] at e2
      cases e2
      refine ⟨by rw [hp], ps1, t1, trip1, fun pos cv hc => ?_⟩
      obtain ⟨c, z1, z2⟩ := among1 pos cv hc
      refine ⟨c, z1, ?_⟩
      rw [hp, hF', if_pos ⟨q, z2⟩]
      exact z2
    · exact (R.ob n a o e1 e2).mono (fun _ _ z => z) sF fun u e => st a u e hP
  · by_cases hP : a = P
    · rw [hP, t1]; simp
    · cases z : H a with
      | none => exact absurd z e
      | some u => rw [st a u z hP]; simp
  · by_cases hc : ∃ q', H1 a = some (CodeO a q')
    · obtain ⟨q', z⟩ := hc
      have ne := PC a q' z
      cases ha : H a with
      | none => exact .inr (.inr (.inl rfl))
      | some u =>
        have := st a u ha ne
        rw [z] at this
        cases this
        exact .inr (.inr (.inr (.inr ⟨q', rfl⟩)))
    · have e' : (if ∃ q', H1 a = some (CodeO a q') then H1 a else F a) ≠ none := e
      rw [if_neg hc] at e'
      exact .inl e'
  · have hP : a ≠ P := by
      rintro rfl
      have hn : n = j := by
        obtain ⟨l1, q1⟩ := List.getElem?_eq_some_iff.mp e1
        obtain ⟨l2, q2⟩ := List.getElem?_eq_some_iff.mp mP
        exact (List.getElem_inj R.nd).mp (q1.trans q2.symm)
      subst hn
      rw [hj] at e2
      cases e2
      cases e3
    exact st a u e hP
end
def isTb (h : Own) (j : Nat) : Bool := match h[j]? with
  | some (.tb j') => j' == j
  | _ => false
theorem isTb_get {h : Own} {j : Nat} (e : isTb h j = true) : h[j]? = some (.tb j) := by
  unfold isTb at e
  split at e
  · rename_i j' q
    rw [q, eq_of_beq e]
  · cases e
/-- g(lambda: x), T: what g makes of x -/
def eLam (j : Nat) (T : Res R → Res R) (x : EX) : EX := fun τ h => if isTb h j = true then T (x τ h) else .stuck
/-- how g's rule answers T -/
def Tells (ca : Cn) (TT : (XK → Hp → VK → Prop) → Hp → VK → Prop) (T : Res R → Res R) : Prop := ∀ {xb : EX} {W : WF} {σ : L2.St} {H : Hp} {Q : VK} {μ : List Addr} {F : Hp} {τ : Fm} {h : Own}, At ca μ F τ h σ H →
  PostG ca τ.b μ F H h (T (xb τ h)) (wx ca W σ) (fun r μ1 F1 H1 _ => ∀ v, RR ca μ1 F1 H H1 v r → Q v H1) → TT (fun E H' Q' => rdE ca (fun cls d _ H' => E cls d H') xb σ H' Q') H Q
section
variable {ca : Cn} {X : Cx} {W : WF}
theorem se_lam {TT : (XK → Hp → VK → Prop) → Hp → VK → Prop} {T : Res R → Res R} {x a q : Str} {c P : Addr} {j k : Nat} {params : Arguments} {body : Expr} {scope : Scope} {xb : EX} {p lpos pos : Pos} (hg : Gl X x) (G : Gets X x a k TT q) (tl : Tells ca TT T)
    (TB : TabB X.base X.mg c P) (hcode : X.env.code = .ref c) (hq : X.env.qual ++ "<lambda>" = q) (hp : ca.tb j = (P, q)) (hr : Room (k + 2) X.A) (L : lamSB X.env.scope scope = true) (hdef : defaultsOf params X.env = ([], []))
    (hbind : ∀ (q : Str) (cl : List (Str × Addr)) (pm cv ctv : Value), bindArgs (PySem.W.kla_fn "<lambda>" q params body scope cl pm cv ctv) ⟨[], []⟩ = pure [])
    (hbody : ∀ (A : Around) (outer : List Env) (s : Shared) (H : Hp) (E : XK) (f c' : Addr), Room k (A.deeper (lamEnv X scope s.heap.objs.size f c')) → SE ca (lamCx X A outer s H E scope f c') (fun cls d _ H' => E cls d H') body xb)
    (hdb : (x == ("__debug__" : Str)) = false) (hd : (a == ("__debug__" : Str)) = false) (hcd : (a == ("__classdict__" : Str)) = false) :
    SE ca X W (.Call (.Name x p) [.Lambda params body scope lpos] [] pos) (eLam j T xb) :=
  PE.imp (pe_lam (t := fun E => rdE ca (fun cls d _ H' => E cls d H') xb) hg G TB hcode hq hr (lamS_by L) hdef hbind hbody hdb hd hcd) fun σ H Q ⟨μ, F, τ, h, A, p⟩ => by
    unfold eLam at p
    by_cases hj : isTb h j = true
    · rw [if_pos hj] at p
      have hj' := isTb_get hj
      obtain ⟨mP, T0, _⟩ := tab_of A.rel hj' hp
      refine ⟨T0, fun H1 st T1 => ?_⟩
      obtain ⟨F', R', E'⟩ := shift_tab A.rel hj' hp st T1
      refine tl (W := W) (A.ext (E' 0) R') ?_
      -- what is wished from the heap ahead, wished from the heap behind
      have E1 := E' τ.b
      generalize T (xb τ h) = r at p
      cases r with
      | stuck => exact p
      | exc c h1 => exact fun μ1 F1 H2 E2 R2 => p μ1 F1 H2 (E1.trans E2) R2
      | ok a h1 => exact fun μ1 F1 H2 E2 R2 v V => p μ1 F1 H2 (E1.trans E2) R2 v (RR.back E1 V)
    · rw [if_neg hj] at p
      exact p.elim
end
/-! ### what the defs make of it -/
def tlCode (c : Nat) (b1 b2 : Bool) : Res R → Res R
  | .ok _ h => .ok (.v (.bl b2)) h
  | .exc k h => if k = c then .ok (.v (.bl b1)) h else .stuck
  | .stuck => .stuck
def tlTold (c1 : Nat) (r1 : Str) (c2 : Nat) (r2 : Str) : Res R → Res R
  | .ok r h => .ok r h
  | .exc k h => if k = c1 then .ok (.v (.str r1)) h else if k = c2 then .ok (.v (.str r2)) h else .stuck
  | .stuck => .stuck
theorem tells_code {ca : Cn} {K : PySem.W.Frag} {c : Nat} {b1 b2 : Bool} (em : PySem.W.exmOne K (.ref (ca.ad c)) (.ref (ca.ad c)) = some true) : Tells ca (TCode K (ca.ad c) b1 b2) (tlCode c b1 b2) := by
  intro xb W σ H Q μ F τ h A p
  refine ⟨μ, F, τ, h, A, ?_⟩
  cases hx : xb τ h with
  | stuck => rw [hx] at p; exact p
  | ok r h1 =>
    rw [hx] at p
    exact fun μ1 F1 H1 E1 R1 v V => p μ1 F1 H1 E1 R1 (.bl b2) (show VR ca _ _ _ _ from .bl b2)
  | exc k h1 =>
    rw [hx] at p
    unfold tlCode at p
    by_cases hk : k = c
    · dsimp only at p
      rw [if_pos hk] at p
      subst hk
      exact fun μ1 F1 H1 E1 R1 => ⟨true, em, fun _ => p μ1 F1 H1 E1 R1 (.bl b1) (show VR ca _ _ _ _ from .bl b1), fun z => nomatch z⟩
    · dsimp only at p
      rw [if_neg hk] at p
      exact p.elim
theorem tells_told {ca : Cn} {K : PySem.W.Frag} {c1 c2 : Nat} {r1 r2 : Str} (em1 : PySem.W.exmOne K (.ref (ca.ad c1)) (.ref (ca.ad c1)) = some true) (em2 : PySem.W.exmOne K (.ref (ca.ad c2)) (.ref (ca.ad c2)) = some true)
    (em3 : PySem.W.exmOne K (.ref (ca.ad c2)) (.ref (ca.ad c1)) = some false) : Tells ca (TTold2 K (ca.ad c1) (ca.ad c2) r1 r2) (tlTold c1 r1 c2 r2) := by
  intro xb W σ H Q μ F τ h A p
  refine ⟨μ, F, τ, h, A, ?_⟩
  cases hx : xb τ h with
  | stuck => rw [hx] at p; exact p
  | ok r h1 => rw [hx] at p; exact p
  | exc k h1 =>
    rw [hx] at p
    unfold tlTold at p
    dsimp only at p
    by_cases hk : k = c1
    · rw [if_pos hk] at p
      subst hk
      exact fun μ1 F1 H1 E1 R1 => ⟨true, em1, fun _ => p μ1 F1 H1 E1 R1 (.str r1) (show VR ca _ _ _ _ from .str r1), fun z => nomatch z⟩
    · rw [if_neg hk] at p
      by_cases hk2 : k = c2
      · rw [if_pos hk2] at p
        subst hk2
        exact fun μ1 F1 H1 E1 R1 => ⟨false, em3, (fun z => nomatch z), fun _ => ⟨true, em2, fun _ => p μ1 F1 H1 E1 R1 (.str r2) (show VR ca _ _ _ _ from .str r2), fun z => nomatch z⟩⟩
      · rw [if_neg hk2] at p
        exact p.elim
/-! ### a def that makes lambdas: its code is known -/
section
variable {P : Program} {w : World} {K : PySem.W.Frag} {mg : Str → Option Value} {base : Heap} {ca : Cn}
theorem def_okL {x qual : Str} {st : Stmt} {f : Addr} {oc : Value} {od an : Option Addr} {osl : Array (Option Value)} {kV doc pm cdv ct : Value} {N ps : List Str} {k : Nat} {bd : ST}
    (l : K.lookup f = some ⟨oc, od, .func (PySem.W.fnOf x qual (defArgs st) (defBody st) (defScope st) .none kV doc pm an cdv ct), osl⟩) (c : PySem.W.codeIn K cdv qual = true) (S : FnScope N ps (defScope st))
    (hb : ∀ (A : Around) (outer : List Env) (s : Shared) (H : Hp) (E : XK), Room k (A.deeper (PyProof.Rows.envOfC qual (defScope st) s.heap.objs.size f cdv)) →
      SSs ca (cxOf (L2.CX P w) P w K mg base N qual (defScope st) f cdv A outer s H E) (fun cls d _ H' => E cls d H') (defBody st) bd) :
    FnOk P w K mg base (L2.CX P w) (k + 1) f (PySem.W.fnOf x qual (defArgs st) (defBody st) (defScope st) .none kV doc pm an cdv ct) ps (spB ca ps.length (body N.length bd)) := by
  refine fn_of l c S (fun vs H Q E ⟨μ, F, h, ds, b, R, V, hl, _, _⟩ => by rw [V.length, hl]) (fun A outer s H vs Q E hr ⟨μ, F, h, ds, b, R, V, hl, hbl, p⟩ => ?_)
  refine ⟨_, hb A outer s H E hr, μ, F, ⟨b, ds.map some ++ List.replicate (N.length - ds.length) none⟩, h, ⟨R, ⟨?_, ?_⟩, hbl⟩, ?_⟩
  · show _ = (L2.start N vs).length
    unfold L2.start
    simp [V.length]
  · intro i d hi
    by_cases hlt : i < ds.length
    · rw [List.getElem?_append_left (by simpa using hlt), List.getElem?_map] at hi
      cases e1 : ds[i]? with
      | none => rw [e1] at hi; cases hi
      | some d' =>
        rw [e1] at hi
        cases hi
        obtain ⟨v, ev, rv⟩ := V.get e1
        refine ⟨v, ?_, rv⟩
        unfold L2.start
        rw [List.getElem?_append_left (by rw [List.length_map, V.length]; exact hlt), List.getElem?_map, ev]
        rfl
    · rw [List.getElem?_append_right (by simpa using hlt), List.getElem?_replicate] at hi
      split at hi <;> cases hi
  · show PostS ca _ b μ F H h (bd ⟨b, ds.map some ++ List.replicate (N.length - ds.length) none⟩ h) _
    have p' : PostF ca b μ F H h (bd ⟨b, ds.map some ++ List.replicate (N.length - ds.length) none⟩ h) Q E := p
    generalize bd ⟨b, ds.map some ++ List.replicate (N.length - ds.length) none⟩ h = r at p'
    cases r with
    | next s h1 => exact fun μ1 F1 H1 σ1 E1 R1 S1 => p' μ1 F1 H1 E1 R1
    | ret r h1 => exact p'
    | exc c s h1 => exact fun μ1 F1 H1 σ1 E1 R1 S1 => p' μ1 F1 H1 E1 R1
    | _ => exact p'.elim
end
end Z
set_option Elab.async false
set_option linter.all false
set_option maxRecDepth 100000
/-! Z31: the end of a law whose text makes lambdas. -/
namespace Z
open PySem PySem.Spec PyProof.Rows L2 LamX
/-- what is known of the makers' tables -/
structure TabF (K : PySem.W.Frag) (ca : Cn) (ns : List Str) (cs : List (Addr × Addr)) : Prop where
  len : cs.length = ns.length
  ix : ∀ (j : Nat) (x : Str), ns[j]? = some x → ∃ p, cs[j]? = some p ∧ PySem.W.tabIn K x = some p
  no : ∀ p ∈ cs, K.lookup p.2 = none
  nd : (cs.map (·.2)).Nodup
  tb : ∀ (j : Nat) (p : Addr × Addr), cs[j]? = some p → (ca.tb j).1 = p.2
theorem walk_tab {l : PySem.W.OpenLaw} {n k : Nat} {q : Program} {loose : List Str} {XP : (Str → Option Value) → Heap → Prop} {YP : World → Heap → Prop} {d : DefRec} {K : Params → PySem.W.Frag} {x : Str} {B : BD} {ns : List Str}
    (hn : l.most = some n) (hn2 : n ≤ sizeLine) (hdf : d.params.defaults = []) (hr : Room k callerA) (hrec : ∀ x ∈ ns, ∃ e, (recsOf q).find? (fun r => r.name == x) = some e) (hY : ∀ (w : World) (h : Heap), YP w h → (K w.params).In h)
    (hlaw : ∀ is : List Int, is.length ≤ n → ∃ h, B 0 [.ro is] (tabs ns.length) = .ret (.v (.bl true)) h)
    (F : ∀ (w : World) (mg : Str → Option Value) (fa : Addr) (h : Heap), (K w.params).In h → h.Ns mainGlobals mg → mg d.name = some (.ref fa) → ∃ (fd : FuncData) (cs : List (Addr × Addr)) (ca : Cn), TabF (K w.params) ca ns cs ∧ (∀ a is, roK (K w.params) a is → ca.ro a is) ∧
      (∀ (s : Shared) (u : Value), BindsTo s fd ⟨[u], []⟩ [(x, u)]) ∧ ∀ base : Heap, (K w.params).In base → base.Ns mainGlobals mg → (∀ p ∈ cs, TabB base mg p.1 p.2) → FnOk l.prog w (K w.params) mg base (L2.CX l.prog w) k fa fd [x] (spB ca 1 B)) :
    PySem.W.WalkO q loose XP YP l.row.toRowW d [] (fun f vs => PySem.call f vs) := by
  refine Att.attach_callB hn hdf fun w s₀ s₁ mg mb fa o pm cd doc a vs is G Y ho hd hcd hmg hobj hints hlen hbits hg => ?_
  have KX := hY w _ Y
  obtain ⟨fd, cs, ca, T, hro, hb, hF⟩ := F w mg fa _ KX G.T.g hmg
  have tab : ∀ p ∈ cs, PySem.W.CodeHd s₁.heap p.1 p.2 ∧ s₁.heap.get? p.2 = some { cls := .none, data := .fields #[] } := by
    intro p hp
    obtain ⟨j, hj⟩ := List.mem_iff_getElem?.mp hp
    have jl := (List.getElem?_eq_some_iff.mp hj).1
    have jl2 : j < ns.length := by rw [← T.len]; exact jl
    obtain ⟨p', e1, e2⟩ := T.ix j ns[j] (List.getElem?_eq_getElem jl2)
    rw [hj] at e1
    cases e1
    obtain ⟨e, he⟩ := hrec _ (List.getElem_mem jl2)
    exact PySem.W.tab_of (c := p.1) (P := p.2) G.T KX he e2
  exact law_callTs KX G.T.g G.T.b G.T.builtins G.T.nolimit hg (fun p hp => (tab p hp).2) T.no (fun p hp => (tab p hp).1) G.T.bmain hobj hints (Nat.le_trans hlen hn2) hr hF hb
    (fun H hH hS => entry hro hH T.nd T.tb hS (by rw [T.len]; exact hlaw is hlen)) fun H e s' => cx_end
end Z
set_option Elab.async false
set_option linter.all false
set_option maxRecDepth 100000
set_option maxHeartbeats 1000000
/-! Z32: a, b, c = x, y, z; o.f op= e. -/
namespace Z
open PySem PySem.Spec L2
section
variable {ca : Cn} {X : Cx} {W : WF} {pos : Pos} {e a b c : Expr}
def sPar3 (i j k : Nat) (xs : EA) : ST := sE xs fun ds τ h => match ds with
  | [x, y, z] => .next (((τ.s.set i (some x)).set j (some y)).set k (some z)) h
  | _ => .stuck
theorem ss_par3 {i j l : Nat} {x y z : Str} {ta : EA} {px py pz pt : Pos} {kt k2 : Nat} {pt2 : Pos} (hc : X.calm = true) (hN : X.N.Nodup) (hi : X.N[i]? = some x) (hj : X.N[j]? = some y) (hl : X.N[l]? = some z) (hij : i ≠ j) (hil : i ≠ l) (hjl : j ≠ l)
    (hx : X.env.scope.names.lookup x = some .local) (hy : X.env.scope.names.lookup y = some .local) (hz : X.env.scope.names.lookup z = some .local) (ha : SA ca X W [a, b, c] ta)
    (hw : swappedStores [.Tuple [.Name x px, .Name y py, .Name z pz] kt pt] (.Tuple [a, b, c] k2 pt2) X.env = pure (some [x, y, z]))
    (hs : swapsWithSole [.Tuple [.Name x px, .Name y py, .Name z pz] kt pt] (.Tuple [a, b, c] k2 pt2) pos.line X.env = pure false) :
    SS ca X W (.Assign [.Tuple [.Name x px, .Name y py, .Name z pz] kt pt] (.Tuple [a, b, c] k2 pt2) pos) (sPar3 i j l ta) := PS.imp (ps_par3 hc hN hi hj hl hij hil hjl hx hy hz ha hw hs) fun D σ H ⟨μ, F, τ, h, A, p⟩ => ⟨μ, F, τ, h, A, (sE_post A p).imp fun ds μ1 F1 H1 h1 E1 R1 q vs Vs => by
    split at q
    · obtain ⟨u, v, w, rfl, V1, V2, V3⟩ := Vs.three
      exact ⟨u, v, w, rfl, q μ1 F1 H1 _ Ext.refl R1 ((((E1.sr A.sl).set i V1).set j V2).set l V3)⟩
    · exact q.elim⟩
/-! ### o.f op= e -/
def fldG (cs : List Nat) (i : Nat) (d : D) (h : Own) : Option D := match d with
  | .ref n => match h[n]? with
    | some (.ins c fs) => if c ∈ cs then fs[i]? else none
    | _ => none
  | _ => none
def sAtA (cs : List Nat) (i : Nat) (g : F2) (o x : ED) : ST := sE o fun d τ h => match fldG cs i d h with
  | some v => sE x (fun y τ h => sE (ed fun _ h => g v y h) (fun z τ h => match fAtt cs i τ.b d z h with
    | some h1 => .next τ.s h1
    | none => .stuck) τ h) τ h
  | none => .stuck
theorem ss_fldaug {c0 : Nat} {i : Nat} {f : Str} {o : Expr} {op : Operator} {r : R2} {g : F2} {tpos : Pos} {xo x : ED} (ho : SD ca X W o xo) (hx : SD ca X W e x) (hop : OpR X (inplaceOp op) r) (lk : Lk2 ca g r)
    (hc : ∀ c ∈ [c0], Cls X.K (ca.ad c) ∧ NoAttr X.K (ca.ad c) f ∧ (ca.nm c).Nodup ∧ (ca.nm c)[i]? = some f) : SS ca X W (.AugAssign (.Attribute o f tpos) op e pos) (sAtA [c0] i g xo x) :=
  PS.imp (ps_fldaug ho hx hop) fun D σ H ⟨μ, F, τ, h, A, p⟩ => ⟨μ, F, τ, h, A, (sE_post A p).imp fun d μ1 F1 H1 h1 E1 R1 q vo Vo => by
    have A1 := A.ext E1 R1
    cases eg : fldG [c0] i d h1 with
    | none => rw [eg] at q; exact q.elim
    | some v =>
      rw [eg] at q
      cases Vo with
      | ref en =>
        rename_i a n
        unfold fldG at eg
        dsimp only at eg
        split at eg
        · rename_i c fs e0
          by_cases hm : c ∈ [c0]
          · rw [if_pos hm] at eg
            obtain ⟨k1, k2, k3, k4⟩ := hc c hm
            obtain ⟨dx, fvs, w1, w2, w3⟩ := R1.ob n _ _ en e0
            obtain ⟨w, ew, rw'⟩ := w3.get eg
            have hi : i < fs.length := (List.getElem?_eq_some_iff.mp eg).1
            refine ⟨a, _, dx, fvs, w, rfl, w1, k1, k2, fld_at w2 (List.Nodup.sublist (List.take_sublist _ _) k3) ?_ rfl ew, ?_⟩
            · rw [List.getElem?_take, if_pos hi]; exact k4
            refine ⟨μ1, F1, τ, h1, A1, (sE_post A1 q).imp fun y μ2 F2 H2 h2 E2 R2 q2 vy Vy => ?_⟩
            have A2 := A1.ext E2 R2
            have q3 := sE_post A2 q2
            refine lk τ.b μ2 F2 H2 h2 (wx ca W σ) w vy v y _ R2 (E2.vr rw') Vy A2.bl (frz_post (Q := fun z H3 => ∃ dx' fs', H3 a = some (.ins (ca.ad c) dx' fs') ∧ fs'.length < 1000 ∧ D.nx σ (upd H3 a (.ins (ca.ad c) dx' (putF f z fs')))) (q3.imp fun z μ3 F3 H3 h3 E3 R3 q4 vz Vz => ?_))
            have A3 := A2.ext E3 R3
            cases ep : fAtt [c0] i τ.b (.ref n) z h3 with
            | none => rw [ep] at q4; exact q4.elim
            | some h4 =>
              rw [ep] at q4
              unfold fAtt at ep
              dsimp only at ep
              have en3 := (E3.ix _ _ (E2.ix _ _ en))
              split at ep
              · rename_i c' fs' e3
                by_cases hm' : c' ∈ [c0] ∧ fs'.length < 1000
                · rw [if_pos hm'] at ep
                  cases ea : attD i z fs' with
                  | none => rw [ea] at ep; cases ep
                  | some fs2 =>
                    rw [ea] at ep
                    obtain ⟨dx3, fvs3, y1, y2, y3⟩ := R3.ob n _ _ en3 e3
                    obtain ⟨l1, l2, l3, l4⟩ := hc c' hm'.1
                    obtain ⟨z1, z2⟩ := att_ok l3 l4 y2 y3 Vz ea
                    obtain ⟨R4, E4⟩ := put_ok R3 en3 e3 rfl ep (u := .ins (ca.ad c') dx3 (putF f vz fvs3)) fun H' q => ⟨dx3, _, q, z1, z2⟩
                    have hl := y3.length
                    rw [List.length_map] at hl
                    by_cases hcc : c' = c
                    · subst hcc
                      exact ⟨dx3, fvs3, y1, by omega, q4 μ3 F3 _ σ E4 R4 (E4.sr A3.sl)⟩
                    · exact absurd ((List.mem_singleton.mp hm'.1).trans (List.mem_singleton.mp hm).symm) hcc
                · rw [if_neg hm'] at ep; cases ep
              · cases ep
          · rw [if_neg hm] at eg; cases eg
        · cases eg
      | _ => cases eg⟩
end
end Z
set_option Elab.async false
set_option linter.all false
set_option maxRecDepth 100000
/-! Z33: small facts that printed proofs ask for. -/
namespace Z
open PySem PySem.Spec L2
theorem hu65_of {A : Around} {k : Nat} (hr : Room k A) : A.units + 65 < cLine := by have := hr.un; omega
theorem hu64_of {A : Around} {k : Nat} (hr : Room k A) : A.units + 64 < cLine := by have := hr.un; omega
theorem hu1_of {A : Around} {k : Nat} (hr : Room k A) : A.units + 1 < cLine := by have := hr.un; omega
theorem exm_other' {K : PySem.W.Frag} {C D : Addr} (i : PySem.W.isClsIn K D = true) (t : PySem.W.typeIn K (.ref D) = some (.type "type")) (s : PySem.W.subIn K (.ref C) (.ref D) = some false)
    (b2 : PySem.W.subIn K (.ref D) (.type "BaseException") = some true) : PySem.W.exmOne K (.ref C) (.ref D) = some false := by
  have i' : (PySem.W.clsIn K D).isSome = true := i
  have z1 : (PySem.W.subIn K (.ref D) (.type "BaseException") == some true) = true := by rw [b2]; rfl
  have z2 : ((PySem.W.clsIn K D).isSome && PySem.W.typeIn K (.ref D) == some (.type "type")) = true := by rw [i', t]; rfl
  unfold PySem.W.exmOne
  rw [if_pos z1]
  exact (if_pos z2).trans s
theorem tab_mk {K : PySem.W.Frag} {x : Str} {E c P : Addr} {oc oq : Value} {od dq : Option Addr} {sl sq : Array (Option Value)} {fd : FuncData} {vs : Array Value} (a : PySem.W.nsIn K mainGlobals x = some (some (.ref E))) (l : K.lookup E = some ⟨oc, od, .func fd, sl⟩)
    (hc : fd.code = .ref c) (q : K.lookup c = some ⟨oq, dq, .fields vs, sq⟩) (v : vs[11]? = some (.ref P)) : PySem.W.tabIn K x = some (c, P) := by
  unfold PySem.W.tabIn
  rw [a]
  simp only [l, hc, q, v]
end Z
set_option Elab.async false
set_option linter.all false
/-! M79: words up to order, in plain Lean: what is computed. -/
namespace TT
def minAt (m : Nat → Nat → Bool) (w : List Nat) (k : Nat) : Bool := (w.take k).all fun x => !m x (w.getD k 0)
def fl (m : Nat → Nat → Bool) (w : List Nat) : List Nat := (List.range w.length).filter (minAt m w)
/-- the first place of a, if nothing ahead of it holds it back -/
def fpos (m : Nat → Nat → Bool) (a : Nat) : List Nat → Option Nat
  | [] => none
  | x :: xs => if x = a then some 0 else if m x a then none else (fpos m a xs).map (· + 1)
def pos1 : Option Nat → Int
  | none => -1
  | some k => (k : Int)
def bst (w : List Nat) (b : Option Nat) (k : Nat) : Option Nat := match b with
  | none => some k
  | some j => if w.getD k 0 < w.getD j 0 then some k else some j
def best (m : Nat → Nat → Bool) (w : List Nat) : Option Nat := (fl m w).foldl (bst w) none
def lf (m : Nat → Nat → Bool) : Nat → List Nat → List Nat
  | 0, _ => []
  | n + 1, w => match best m w with
    | none => []
    | some k => w.getD k 0 :: lf m n (w.eraseIdx k)
def least (m : Nat → Nat → Bool) (w : List Nat) : List Nat := lf m w.length w
def rem (m : Nat → Nat → Bool) (a : Nat) (w : List Nat) : Option (List Nat) := (fpos m a w).map w.eraseIdx
def remAll (m : Nat → Nat → Bool) : List Nat → List Nat → Option (List Nat)
  | [], w => some w
  | a :: u, w => (rem m a w).bind (remAll m u)
def nx (m : Nat → Nat → Bool) (n : Nat) (ws : List (List Nat)) : Option Nat := (List.range n).find? fun a => ws.all fun w => (rem m a w).isSome
def gcs (m : Nat → Nat → Bool) (n : Nat) : Nat → List (List Nat) → List Nat
  | 0, _ => []
  | f + 1, ws => match nx m n ws with
    | none => []
    | some a => a :: gcs m n f (ws.map fun w => (rem m a w).getD w)
theorem getD_at {w : List Nat} {k : Nat} (h : k < w.length) : w.getD k 0 = w[k] := by
  rw [List.getD_eq_getElem?_getD, List.getElem?_eq_getElem h]; rfl
theorem fpos_lt {m : Nat → Nat → Bool} {a k : Nat} : ∀ {w : List Nat}, fpos m a w = some k → k < w.length
  | [], h => by cases h
  | x :: xs, h => by
    unfold fpos at h
    split at h
    · cases h; simp
    · split at h
      · cases h
      · obtain ⟨j, e, rfl⟩ := Option.map_eq_some_iff.mp h
        have := fpos_lt e
        simp
        omega
theorem fpos_at {m : Nat → Nat → Bool} {a k : Nat} : ∀ {w : List Nat}, fpos m a w = some k → w[k]? = some a
  | [], h => by cases h
  | x :: xs, h => by
    unfold fpos at h
    split at h
    · rename_i e; cases h; simp [e]
    · split at h
      · cases h
      · obtain ⟨j, e, rfl⟩ := Option.map_eq_some_iff.mp h
        simpa using fpos_at e
/-- the minimal places are told by fpos -/
theorem fl_lt {m : Nat → Nat → Bool} {w : List Nat} {k : Nat} (h : k ∈ fl m w) : k < w.length := by
  unfold fl at h
  rw [List.mem_filter, List.mem_range] at h
  exact h.1
theorem find_fl (m : Nat → Nat → Bool) (a : Nat) (ha : m a a = true) (w : List Nat) : (fl m w).find? (fun k => w.getD k 0 == a) = fpos m a w := by
  suffices H : ∀ (w pre : List Nat), (∀ x ∈ pre, m x a = false ∧ x ≠ a) →
      ((List.range w.length).filter fun k => pre.all (fun x => !m x (w.getD k 0)) && minAt m w k).find? (fun k => w.getD k 0 == a) = fpos m a w by
    have := H w [] (fun _ h => by cases h)
    simpa [fl] using this
  intro w
  induction w with
  | nil => intro pre _; simp [fpos]
  | cons x xs ih =>
    intro pre hp
    rw [List.length_cons, List.range_succ_eq_map, List.filter_cons, List.filter_map]
    unfold fpos
    by_cases hx : x = a
    · subst hx
      rw [if_pos rfl]
      have h0 : (pre.all (fun y => !m y ((x :: xs).getD 0 0)) && minAt m (x :: xs) 0) = true := by
        simp [minAt]
        intro y hy
        exact (hp y hy).1
      rw [if_pos h0]
      simp
    · rw [if_neg hx]
      have hrest : ∀ (q : Nat → Bool), (∀ k, (x :: xs).getD (k + 1) 0 = a → q (k + 1) = (pre.all (fun y => !m y a) && !m x a && minAt m xs k)) →
          (List.find? (fun k => (x :: xs).getD k 0 == a) (List.map Nat.succ (List.filter (q ∘ Nat.succ) (List.range xs.length)))) = if m x a then none else (fpos m a xs).map (· + 1) := by
        intro q hq
        rw [List.find?_map]
        by_cases hm : m x a = true
        · rw [if_pos hm]
          have : List.find? ((fun k => (x :: xs).getD k 0 == a) ∘ Nat.succ) (List.filter (q ∘ Nat.succ) (List.range xs.length)) = none := by
            rw [List.find?_eq_none]
            intro k hk hka
            rw [List.mem_filter] at hk
            have hka' : (x :: xs).getD (k + 1) 0 = a := by simpa using hka
            have := hq k hka'
            rw [hm] at this
            simp at this
            have h2 := hk.2
            simp at h2
            rw [this] at h2
            cases h2
          rw [this]
          rfl
        · rw [if_neg hm]
          have hm' : m x a = false := by simpa using hm
          rw [← ih pre hp]
          congr 1
          have hpre : pre.all (fun y => !m y a) = true := by
            rw [List.all_eq_true]
            intro y hy
            rw [(hp y hy).1]
            rfl
          -- find over two filters that agree where the letter is a
          rw [List.find?_filter, List.find?_filter]
          congr 1
          funext k
          by_cases hka : xs.getD k 0 = a
          · have := hq k (by simpa using hka)
            refine decide_eq_decide.mpr ?_
            show (q (k + 1) = true ∧ ((xs.getD k 0 == a) = true)) ↔ _
            rw [this, hka, hpre, hm']
            simp
          · have h1 : ((x :: xs).getD (k + 1) 0 == a) = false := by simpa using hka
            have h2 : (xs.getD k 0 == a) = false := by simpa using hka
            refine decide_eq_decide.mpr ?_
            show (q (k + 1) = true ∧ ((xs.getD k 0 == a) = true)) ↔ _
            rw [h2]
            simp
      have hq0 : ∀ k, (x :: xs).getD (k + 1) 0 = a → (pre.all (fun y => !m y ((x :: xs).getD (k + 1) 0)) && minAt m (x :: xs) (k + 1)) = (pre.all (fun y => !m y a) && !m x a && minAt m xs k) := by
        intro k hk
        rw [hk]
        have hk' : xs.getD k 0 = a := by simpa using hk
        unfold minAt
        rw [hk, hk', List.take_succ_cons, List.all_cons, Bool.and_assoc]
      split
      · rw [List.find?_cons_of_neg (by simpa using hx)]
        exact hrest (fun k => pre.all (fun y => !m y ((x :: xs).getD k 0)) && minAt m (x :: xs) k) hq0
      · exact hrest (fun k => pre.all (fun y => !m y ((x :: xs).getD k 0)) && minAt m (x :: xs) k) hq0
theorem fl_ne {m : Nat → Nat → Bool} {w : List Nat} (h : w ≠ []) : 0 ∈ fl m w := by
  unfold fl
  rw [List.mem_filter, List.mem_range]
  exact ⟨List.length_pos_iff.mpr h, by simp [minAt]⟩
/-- what the fold over the minimal places finds -/
theorem bst_fold {w : List Nat} : ∀ (ks : List Nat) (b : Option Nat), (ks = [] → b ≠ none) → ∃ k, ks.foldl (bst w) b = some k ∧ (k ∈ ks ∨ b = some k) ∧ (∀ j ∈ ks, w.getD k 0 ≤ w.getD j 0) ∧ (∀ j, b = some j → w.getD k 0 ≤ w.getD j 0)
  | [], none, h => absurd rfl (h rfl)
  | [], some j, _ => ⟨j, rfl, .inr rfl, (fun _ z => by cases z), fun i e => by cases e; exact Nat.le_refl _⟩
  | k :: ks, b, _ => by
    obtain ⟨j, e1, e2, e3, e4⟩ := bst_fold (w := w) ks (bst w b k) (fun _ => by
      cases b with
      | none => simp [bst]
      | some j =>
        simp only [bst]
        split <;> simp)
    have h0 : ∃ i, bst w b k = some i ∧ (i = k ∨ b = some i) ∧ w.getD i 0 ≤ w.getD k 0 ∧ ∀ z, b = some z → w.getD i 0 ≤ w.getD z 0 := by
      cases b with
      | none => exact ⟨k, rfl, .inl rfl, Nat.le_refl _, fun z e => by cases e⟩
      | some y =>
        by_cases hc : w.getD k 0 < w.getD y 0
        · exact ⟨k, (show (if w.getD k 0 < w.getD y 0 then some k else some y) = some k by rw [if_pos hc]), .inl rfl, Nat.le_refl _, fun z e => by cases e; exact Nat.le_of_lt hc⟩
        · refine ⟨y, ?_, .inr rfl, Nat.le_of_not_lt hc, fun z e => by cases e; exact Nat.le_refl _⟩
          show (if w.getD k 0 < w.getD y 0 then some k else some y) = some y
          rw [if_neg hc]
    obtain ⟨i, i1, i2, i3, i4⟩ := h0
    refine ⟨j, e1, ?_, ?_, fun z e => Nat.le_trans (e4 i i1) (i4 z e)⟩
    · rcases e2 with e2 | e2
      · exact .inl (List.mem_cons_of_mem _ e2)
      · rw [i1] at e2
        cases e2
        rcases i2 with rfl | i2
        · exact .inl List.mem_cons_self
        · exact .inr i2
    · intro z hz
      rcases List.mem_cons.mp hz with rfl | hz
      · exact Nat.le_trans (e4 i i1) i3
      · exact e3 z hz
theorem best_some {m : Nat → Nat → Bool} {w : List Nat} (h : w ≠ []) : ∃ k, best m w = some k ∧ k ∈ fl m w ∧ ∀ j ∈ fl m w, w.getD k 0 ≤ w.getD j 0 := by
  obtain ⟨k, e1, e2, e3, _⟩ := bst_fold (w := w) (fl m w) none (fun z => by have := fl_ne (m := m) h; rw [z] at this; cases this)
  exact ⟨k, e1, e2.resolve_right (by simp), e3⟩
theorem best_none {m : Nat → Nat → Bool} : best m [] = none := rfl
theorem lf_len {m : Nat → Nat → Bool} : ∀ n w, w.length ≤ n → (lf m n w).length = w.length
  | 0, w, h => by
    have : w = [] := List.length_eq_zero_iff.mp (Nat.le_zero.mp h)
    subst this
    rfl
  | n + 1, w, h => by
    unfold lf
    by_cases hw : w = []
    · subst hw
      rw [best_none]
    · obtain ⟨k, e, hk, _⟩ := best_some (m := m) hw
      have hlt := fl_lt hk
      rw [e]
      dsimp only
      rw [List.length_cons, lf_len n _ (by rw [List.length_eraseIdx]; simp [hlt]; omega), List.length_eraseIdx]
      simp [hlt]
      omega
theorem least_len {m : Nat → Nat → Bool} (w : List Nat) : (least m w).length = w.length := lf_len _ _ (Nat.le_refl _)
theorem lf_mem {m : Nat → Nat → Bool} : ∀ n w x, x ∈ lf m n w → x ∈ w
  | 0, _, _, h => by cases h
  | n + 1, w, x, h => by
    unfold lf at h
    by_cases hw : w = []
    · subst hw
      rw [best_none] at h
      cases h
    · obtain ⟨k, e, hk, _⟩ := best_some (m := m) hw
      have hlt := fl_lt hk
      rw [e] at h
      dsimp only at h
      rcases List.mem_cons.mp h with rfl | h
      · rw [getD_at hlt]; exact List.getElem_mem hlt
      · exact List.mem_of_mem_eraseIdx (lf_mem n _ x h)
theorem least_mem {m : Nat → Nat → Bool} {w : List Nat} {x : Nat} (h : x ∈ least m w) : x ∈ w := lf_mem _ _ x h
theorem rem_len {m : Nat → Nat → Bool} {a : Nat} {w v : List Nat} (h : rem m a w = some v) : v.length + 1 = w.length := by
  obtain ⟨k, e, rfl⟩ := Option.map_eq_some_iff.mp h
  have := fpos_lt e
  rw [List.length_eraseIdx]
  simp [this]
  omega
theorem rem_mem {m : Nat → Nat → Bool} {a : Nat} {w v : List Nat} (h : rem m a w = some v) {x : Nat} (hx : x ∈ v) : x ∈ w := by
  obtain ⟨k, e, rfl⟩ := Option.map_eq_some_iff.mp h
  exact List.mem_of_mem_eraseIdx hx
end TT
set_option Elab.async false
set_option linter.all false
/-! M79b: words up to order by their projections to places. q p a: the letter a has the place p. -/
namespace TT
/-- two letters meet where they share a place -/
def Sys (m q : Nat → Nat → Bool) : Prop := ∀ a b, m a b = true ↔ ∃ p, q p a = true ∧ q p b = true
/-- a letter has a place -/
def Pla (q : Nat → Nat → Bool) (a : Nat) : Prop := ∃ p, q p a = true
abbrev pr (q : Nat → Nat → Bool) (p : Nat) (w : List Nat) : List Nat := w.filter (q p)
section
variable {m q : Nat → Nat → Bool}
theorem Sys.no {a b p : Nat} (S : Sys m q) (h : m a b = false) (hb : q p b = true) : q p a = false := by
  cases e : q p a with
  | false => rfl
  | true => rw [(S a b).mpr ⟨p, e, hb⟩] at h; cases h
theorem Sys.refl {a : Nat} (S : Sys m q) (h : Pla q a) : m a a = true := by
  obtain ⟨p, hp⟩ := h
  exact (S a a).mpr ⟨p, hp, hp⟩
theorem pr_nil_of {p : Nat} {w : List Nat} (h : ∀ x ∈ w, q p x = false) : pr q p w = [] := by
  rw [List.filter_eq_nil_iff]
  intro x hx
  simp [h x hx]
theorem min_pr (S : Sys m q) {w : List Nat} {k : Nat} (hk : k < w.length) (h : ∀ x ∈ w.take k, m x w[k] = false) (p : Nat) : pr q p w = pr q p [w[k]] ++ pr q p (w.eraseIdx k) := by
  have e : w = w.take k ++ w[k] :: w.drop (k + 1) := by rw [← List.drop_eq_getElem_cons hk, List.take_append_drop]
  rw [List.eraseIdx_eq_take_drop_succ]
  conv => lhs; rw [e]
  generalize w[k] = a at *
  unfold pr
  rw [List.filter_append, List.filter_append, List.filter_cons]
  cases hq : q p a with
  | false => simp [hq]
  | true =>
    have : (w.take k).filter (q p) = [] := pr_nil_of (q := q) (p := p) fun x hx => S.no (h x hx) hq
    rw [this]
    simp [hq]
theorem fpos_min {a k : Nat} : ∀ {w : List Nat}, fpos m a w = some k → ∀ x ∈ w.take k, m x a = false
  | [], h, _, _ => by cases h
  | x :: xs, h, y, hy => by
    unfold fpos at h
    split at h
    · cases h; simp at hy
    · rename_i hxa
      split at h
      · cases h
      · rename_i hm
        obtain ⟨j, e, rfl⟩ := Option.map_eq_some_iff.mp h
        rw [List.take_succ_cons] at hy
        rcases List.mem_cons.mp hy with rfl | hy
        · simpa using hm
        · exact fpos_min e y hy
theorem rem_pr (S : Sys m q) {a : Nat} {w v : List Nat} (h : rem m a w = some v) (p : Nat) : pr q p w = pr q p [a] ++ pr q p v := by
  obtain ⟨k, e, rfl⟩ := Option.map_eq_some_iff.mp h
  have hk := fpos_lt e
  have ha : w[k] = a := by
    have := fpos_at e
    rw [List.getElem?_eq_getElem hk] at this
    exact Option.some.inj this
  have := min_pr S hk (by rw [ha]; exact fpos_min e) p
  rw [ha] at this
  exact this
theorem rem_of (S : Sys m q) {a : Nat} : ∀ {w : List Nat}, Pla q a → (∀ p, q p a = true → ∃ t, pr q p w = a :: t) → ∃ v, rem m a w = some v
  | [], ⟨p, hp⟩, h => by
    obtain ⟨t, ht⟩ := h p hp
    cases ht
  | x :: xs, hp, h => by
    unfold rem
    by_cases hx : x = a
    · exact ⟨_, by rw [fpos, if_pos hx]; rfl⟩
    · have hm : m x a = false := by
        cases e : m x a with
        | false => rfl
        | true =>
          obtain ⟨p, h1, h2⟩ := (S x a).mp e
          obtain ⟨t, ht⟩ := h p h2
          unfold pr at ht
          rw [List.filter_cons_of_pos h1] at ht
          exact absurd (List.cons.inj ht).1 hx
      obtain ⟨v, hv⟩ := rem_of S (w := xs) hp fun p hpa => by
        obtain ⟨t, ht⟩ := h p hpa
        refine ⟨t, ?_⟩
        have h1 : q p x = false := S.no hm hpa
        unfold pr at ht ⊢
        rw [List.filter_cons_of_neg (by simp [h1])] at ht
        exact ht
      unfold rem at hv
      obtain ⟨k, ek, _⟩ := Option.map_eq_some_iff.mp hv
      refine ⟨(x :: xs).eraseIdx (k + 1), ?_⟩
      rw [fpos, if_neg hx, hm, ek]
      rfl
theorem remAll_pr (S : Sys m q) : ∀ {u w v : List Nat}, remAll m u w = some v → ∀ p, pr q p w = pr q p u ++ pr q p v
  | [], w, v, h, p => by cases h; rfl
  | a :: u, w, v, h, p => by
    cases e : rem m a w with
    | none => rw [remAll, e] at h; cases h
    | some x =>
      rw [remAll, e] at h
      have h1 := rem_pr S e p
      have h2 := remAll_pr S (u := u) (w := x) (v := v) h p
      rw [h1, h2, ← List.append_assoc]
      congr 1
      unfold pr
      rw [← List.filter_append]
      rfl
theorem remAll_of (S : Sys m q) : ∀ {u w : List Nat}, (∀ a ∈ u, Pla q a) → (∀ p, pr q p u <+: pr q p w) → ∃ v, remAll m u w = some v
  | [], w, _, _ => ⟨w, rfl⟩
  | a :: u, w, hp, h => by
    have ha := hp a List.mem_cons_self
    obtain ⟨x, hx⟩ := rem_of S (w := w) ha fun p hpa => by
      obtain ⟨t, ht⟩ := h p
      refine ⟨pr q p u ++ t, ?_⟩
      rw [← ht]
      unfold pr
      rw [List.filter_cons_of_pos hpa]
      rfl
    have h2 := rem_pr S hx
    obtain ⟨v, hv⟩ := remAll_of S (u := u) (w := x) (fun b hb => hp b (List.mem_cons_of_mem _ hb)) fun p => by
      obtain ⟨t, ht⟩ := h p
      have h3 := h2 p
      refine ⟨t, ?_⟩
      have : pr q p (a :: u) = pr q p [a] ++ pr q p u := by
        unfold pr
        rw [← List.filter_append]
        rfl
      rw [h3, this, List.append_assoc] at ht
      exact List.append_cancel_left ht
    exact ⟨v, by rw [remAll, hx]; exact hv⟩
theorem least_pr (S : Sys m q) (p : Nat) : ∀ (n : Nat) (w : List Nat), w.length ≤ n → pr q p (lf m n w) = pr q p w
  | 0, w, h => by
    have : w = [] := List.length_eq_zero_iff.mp (Nat.le_zero.mp h)
    subst this
    rfl
  | n + 1, w, h => by
    by_cases hw : w = []
    · subst hw
      unfold lf
      rw [best_none]
    · obtain ⟨k, e, hk, _⟩ := best_some (m := m) hw
      have hlt := fl_lt hk
      have hmin : ∀ x ∈ w.take k, m x w[k] = false := by
        unfold fl at hk
        rw [List.mem_filter] at hk
        have := hk.2
        unfold minAt at this
        rw [List.all_eq_true, getD_at hlt] at this
        intro x hx
        have := this x hx
        simpa using this
      unfold lf
      rw [e]
      dsimp only
      rw [min_pr S hlt hmin p, ← least_pr S p n (w.eraseIdx k) (by rw [List.length_eraseIdx]; simp [hlt]; omega), getD_at hlt]
      unfold pr
      rw [← List.filter_append]
      rfl
theorem least_proj (S : Sys m q) (p : Nat) (w : List Nat) : pr q p (least m w) = pr q p w := least_pr S p _ w (Nat.le_refl _)
theorem mem_of_pr {x y : List Nat} (h : ∀ p, pr q p x = pr q p y) {a : Nat} (hp : Pla q a) (ha : a ∈ x) : a ∈ y := by
  obtain ⟨p, hp⟩ := hp
  have : a ∈ pr q p x := List.mem_filter.mpr ⟨ha, hp⟩
  rw [h p] at this
  exact (List.mem_filter.mp this).1
end
end TT
set_option Elab.async false
set_option linter.all false
/-! M79c: the common beginning is the greatest; joins. -/
namespace TT
section
variable {m q : Nat → Nat → Bool}
theorem pr_cons (q : Nat → Nat → Bool) (p a : Nat) (u : List Nat) : pr q p (a :: u) = pr q p [a] ++ pr q p u := by
  unfold pr
  rw [← List.filter_append]
  rfl
theorem pr_app (q : Nat → Nat → Bool) (p : Nat) (u v : List Nat) : pr q p (u ++ v) = pr q p u ++ pr q p v := List.filter_append ..
theorem nx_all {n a : Nat} {ws : List (List Nat)} (h : nx m n ws = some a) : a < n ∧ ∀ w ∈ ws, ∃ v, rem m a w = some v := by
  unfold nx at h
  have h1 := List.mem_of_find?_eq_some h
  have h2 := List.find?_some h
  refine ⟨List.mem_range.mp h1, fun w hw => ?_⟩
  rw [List.all_eq_true] at h2
  exact Option.isSome_iff_exists.mp (h2 w hw)
/-- the common beginning is one -/
theorem gcs_remAll {n : Nat} : ∀ (f : Nat) (ws : List (List Nat)), ∀ w ∈ ws, ∃ v, remAll m (gcs m n f ws) w = some v
  | 0, ws, w, _ => ⟨w, rfl⟩
  | f + 1, ws, w, hw => by
    unfold gcs
    cases e : nx m n ws with
    | none => exact ⟨w, rfl⟩
    | some a =>
      obtain ⟨v, hv⟩ := (nx_all e).2 w hw
      obtain ⟨x, hx⟩ := gcs_remAll (n := n) f (ws.map fun w => (rem m a w).getD w) v (List.mem_map.mpr ⟨w, hw, by rw [hv]; rfl⟩)
      exact ⟨x, by dsimp only; rw [remAll, hv]; exact hx⟩
theorem pre_nil {l t : List Nat} {a : Nat} (h : l <+: a :: t) (hn : a ∉ l) : l = [] := by
  cases l with
  | nil => rfl
  | cons b l =>
    obtain ⟨s, hs⟩ := h
    have := (List.cons.inj hs).1
    subst this
    exact absurd List.mem_cons_self hn
/-- .. the greatest -/
theorem gcs_great (S : Sys m q) {n : Nat} : ∀ (f : Nat) (ws : List (List Nat)) (w0 : List Nat), w0 ∈ ws → w0.length < f → ∀ d : List Nat, (∀ b ∈ d, b < n ∧ Pla q b) → (∀ w ∈ ws, ∀ p, pr q p d <+: pr q p w) → ∀ p, pr q p d <+: pr q p (gcs m n f ws)
  | 0, ws, w0, _, hf, _, _, _, _ => absurd hf (Nat.not_lt_zero _)
  | f + 1, ws, w0, hw0, hf, d, hd, hp, p => by
    unfold gcs
    cases e : nx m n ws with
    | none =>
      cases d with
      | nil => exact List.nil_prefix
      | cons b d =>
        exfalso
        have hb := hd b List.mem_cons_self
        have h1 : ∀ w ∈ ws, ∃ v, rem m b w = some v := fun w hw => rem_of S hb.2 fun p hpb => by
          obtain ⟨t, ht⟩ := hp w hw p
          refine ⟨pr q p d ++ t, ?_⟩
          rw [← ht]
          unfold pr
          rw [List.filter_cons_of_pos hpb]
          rfl
        unfold nx at e
        rw [List.find?_range_eq_none] at e
        have := e b hb.1
        rw [Bool.not_eq_true', Bool.eq_false_iff] at this
        apply this
        rw [List.all_eq_true]
        intro w hw
        obtain ⟨v, hv⟩ := h1 w hw
        rw [hv]
        rfl
    | some a =>
      dsimp only
      obtain ⟨han, hall⟩ := nx_all e
      obtain ⟨v0, hv0⟩ := hall w0 hw0
      have hw0' : v0 ∈ ws.map fun w => (rem m a w).getD w := List.mem_map.mpr ⟨w0, hw0, by rw [hv0]; rfl⟩
      have hl := rem_len hv0
      have each : ∀ w ∈ ws, ∃ v, rem m a w = some v ∧ ∀ p, pr q p w = pr q p [a] ++ pr q p v := fun w hw => by
        obtain ⟨v, hv⟩ := hall w hw
        exact ⟨v, hv, rem_pr S hv⟩
      rw [pr_cons q p a]
      by_cases had : a ∈ d
      · have hpa := (hd a had).2
        obtain ⟨d', hd'⟩ := rem_of S (w := d) hpa fun p hpa => by
          obtain ⟨v, _, hv⟩ := each w0 hw0
          have h1 : pr q p w0 = a :: pr q p v := by rw [hv p]; unfold pr; simp [hpa]
          have h2 := hp w0 hw0 p
          rw [h1] at h2
          cases hc : pr q p d with
          | nil =>
            have : a ∈ pr q p d := List.mem_filter.mpr ⟨had, hpa⟩
            rw [hc] at this
            cases this
          | cons b t =>
            rw [hc] at h2
            obtain ⟨s, hs⟩ := h2
            exact ⟨t, by rw [(List.cons.inj hs).1]⟩
        have hd2 := rem_pr S hd'
        rw [hd2 p]
        have ih := gcs_great S f _ v0 hw0' (by omega) d' (fun b hb => hd b (rem_mem hd' hb)) (fun w hw p => by
          obtain ⟨w1, hw1, rfl⟩ := List.mem_map.mp hw
          obtain ⟨v, hv, hv2⟩ := each w1 hw1
          rw [hv]
          have := hp w1 hw1 p
          rw [hv2 p, hd2 p] at this
          exact (List.prefix_append_right_inj _).mp this) p
        exact (List.prefix_append_right_inj _).mpr ih
      · have ih := gcs_great S f _ v0 hw0' (by omega) d hd (fun w hw p => by
          obtain ⟨w1, hw1, rfl⟩ := List.mem_map.mp hw
          obtain ⟨v, hv, hv2⟩ := each w1 hw1
          rw [hv]
          have := hp w1 hw1 p
          rw [hv2 p] at this
          cases hq : q p a with
          | true =>
            have e1 : pr q p [a] = [a] := by unfold pr; simp [hq]
            rw [e1] at this
            have := pre_nil this (fun z => had (List.mem_filter.mp z).1)
            show pr q p d <+: _
            rw [this]
            exact List.nil_prefix
          | false =>
            have e1 : pr q p [a] = [] := by unfold pr; simp [hq]
            rw [e1] at this
            exact this) p
        cases hq : q p a with
        | true =>
          obtain ⟨v, _, hv2⟩ := each w0 hw0
          have := hp w0 hw0 p
          rw [hv2 p] at this
          have e1 : pr q p [a] = [a] := by unfold pr; simp [hq]
          rw [e1] at this
          rw [pre_nil this (fun z => had (List.mem_filter.mp z).1)]
          exact List.nil_prefix
        | false =>
          have e1 : pr q p [a] = [] := by unfold pr; simp [hq]
          rw [e1]
          exact ih
/-- comparable at a place -/
def Cmp (u w : List Nat) : Prop := u <+: w ∨ w <+: u
/-- no letter of x meets one of y -/
def apart (m : Nat → Nat → Bool) (x y : List Nat) : Prop := ∀ a ∈ x, ∀ b ∈ y, m a b = false
theorem cmp_app {c x y : List Nat} : Cmp (c ++ x) (c ++ y) ↔ Cmp x y := by
  unfold Cmp
  rw [List.prefix_append_right_inj, List.prefix_append_right_inj]
theorem apart_nil (S : Sys m q) {x y : List Nat} (h : apart m x y) (p : Nat) : pr q p x = [] ∨ pr q p y = [] := by
  cases hx : pr q p x with
  | nil => exact .inl rfl
  | cons a s =>
    cases hy : pr q p y with
    | nil => exact .inr rfl
    | cons b t =>
      have ha : a ∈ pr q p x := by rw [hx]; exact List.mem_cons_self
      have hb : b ∈ pr q p y := by rw [hy]; exact List.mem_cons_self
      rw [List.mem_filter] at ha hb
      have := h a ha.1 b hb.1
      rw [(S a b).mpr ⟨p, ha.2, hb.2⟩] at this
      cases this
/-- the pair joins exactly where the words are comparable at each place -/
theorem apart_cmp (S : Sys m q) {n : Nat} {u w x y c : List Nat} (hc : c = gcs m n (u.length + 1) [u, w]) (hn : ∀ a ∈ x, a < n ∧ Pla q a) (hcn : ∀ a ∈ c, a < n ∧ Pla q a) (hu : ∀ p, pr q p u = pr q p c ++ pr q p x) (hw : ∀ p, pr q p w = pr q p c ++ pr q p y) :
    apart m x y ↔ ∀ p, Cmp (pr q p u) (pr q p w) := by
  constructor
  · intro h p
    rw [hu p, hw p, cmp_app]
    rcases apart_nil S h p with e | e
    · rw [e]; exact .inl List.nil_prefix
    · rw [e]; exact .inr List.nil_prefix
  · intro h
    have hxy : ∀ p, Cmp (pr q p x) (pr q p y) := fun p => by
      have := h p
      rw [hu p, hw p, cmp_app] at this
      exact this
    -- a letter of x that meets one of y, the first such
    by_cases hex : ∃ a ∈ x, ∃ b ∈ y, m a b = true
    · exfalso
      obtain ⟨pre, z, post, hx, hpre, b, hb, hzb⟩ : ∃ pre z post, x = pre ++ z :: post ∧ (∀ a ∈ pre, ∀ b ∈ y, m a b = false) ∧ ∃ b ∈ y, m z b = true := by
        clear hu hn h hxy
        induction x with
        | nil => obtain ⟨a, ha, _⟩ := hex; cases ha
        | cons a x ih =>
          by_cases h1 : ∃ b ∈ y, m a b = true
          · exact ⟨[], a, x, rfl, (fun _ h => by cases h), h1⟩
          · obtain ⟨a', ha', b, hb, hm⟩ := hex
            rcases List.mem_cons.mp ha' with rfl | ha'
            · exact absurd ⟨b, hb, hm⟩ h1
            · obtain ⟨pre, z, post, e1, e2, e3⟩ := ih ⟨a', ha', b, hb, hm⟩
              refine ⟨a :: pre, z, post, by rw [e1]; rfl, fun c hc d hd => ?_, e3⟩
              rcases List.mem_cons.mp hc with rfl | hc
              · cases e : m c d with
                | false => rfl
                | true => exact absurd ⟨d, hd, e⟩ h1
              · exact e2 c hc d hd
      obtain ⟨p0, hz0, hb0⟩ := (S z b).mp hzb
      have hpre0 : ∀ p, (∃ d ∈ y, q p d = true) → pr q p pre = [] := fun p ⟨d, hd, hpd⟩ => pr_nil_of fun a ha => S.no (hpre a ha d hd) hpd
      have hxz : ∀ p, q p z = true → (∃ d ∈ y, q p d = true) → ∃ t, pr q p x = z :: t := fun p hpz hy => by
        refine ⟨pr q p post, ?_⟩
        rw [hx, pr_app, hpre0 p hy]
        unfold pr
        rw [List.nil_append, List.filter_cons_of_pos hpz]
      have hyz : ∀ p, q p z = true → (∃ d ∈ y, q p d = true) → ∃ t, pr q p y = z :: t := fun p hpz hy => by
        obtain ⟨t, ht⟩ := hxz p hpz hy
        obtain ⟨d, hd, hpd⟩ := hy
        cases hc : pr q p y with
        | nil =>
          have : d ∈ pr q p y := List.mem_filter.mpr ⟨hd, hpd⟩
          rw [hc] at this
          cases this
        | cons e s =>
          have := hxy p
          rw [ht, hc] at this
          rcases this with ⟨r, hr⟩ | ⟨r, hr⟩
          · exact ⟨s, by rw [(List.cons.inj hr).1]⟩
          · exact ⟨s, by rw [← (List.cons.inj hr).1]⟩
      have hzy : z ∈ y := by
        obtain ⟨t, ht⟩ := hyz p0 hz0 ⟨b, hb, hb0⟩
        have : z ∈ pr q p0 y := by rw [ht]; exact List.mem_cons_self
        exact (List.mem_filter.mp this).1
      have hzx : z ∈ x := by rw [hx]; simp
      have pre1 : ∀ p, pr q p (c ++ [z]) <+: pr q p u ∧ pr q p (c ++ [z]) <+: pr q p w := fun p => by
        rw [pr_app, hu p, hw p, List.prefix_append_right_inj, List.prefix_append_right_inj]
        cases hq : q p z with
        | false =>
          have : pr q p [z] = [] := by unfold pr; simp [hq]
          rw [this]
          exact ⟨List.nil_prefix, List.nil_prefix⟩
        | true =>
          have : pr q p [z] = [z] := by unfold pr; simp [hq]
          rw [this]
          obtain ⟨t, ht⟩ := hxz p hq ⟨z, hzy, hq⟩
          obtain ⟨s, hs⟩ := hyz p hq ⟨z, hzy, hq⟩
          rw [ht, hs]
          exact ⟨⟨t, rfl⟩, ⟨s, rfl⟩⟩
      have := gcs_great S (n := n) (u.length + 1) [u, w] u List.mem_cons_self (Nat.lt_succ_self _) (c ++ [z]) (fun d hd => by
        rcases List.mem_append.mp hd with hd | hd
        · exact hcn d hd
        · rw [List.mem_singleton] at hd; subst hd; exact hn d hzx) (fun v hv p => by
          rcases List.mem_cons.mp hv with rfl | hv
          · exact (pre1 p).1
          · rw [List.mem_singleton] at hv; subst hv; exact (pre1 p).2) p0
      rw [← hc, pr_app] at this
      have hl := this.length_le
      have : pr q p0 [z] = [z] := by unfold pr; simp [hz0]
      rw [this] at hl
      simp only [List.length_append, List.length_cons, List.length_nil] at hl
      omega
    · intro a ha b hb
      cases e : m a b with
      | false => rfl
      | true => exact absurd ⟨a, ha, b, hb, e⟩ hex
end
end TT
set_option Elab.async false
set_option linter.all false
/-! M79d: the least form is least; joins of several words. -/
namespace TT
section
variable {m q : Nat → Nat → Bool}
/-- the projections of a join -/
theorem join_pr (S : Sys m q) {u w x y c : List Nat} (hu : ∀ p, pr q p u = pr q p c ++ pr q p x) (hw : ∀ p, pr q p w = pr q p c ++ pr q p y) (ha : apart m x y) (p : Nat) :
    (pr q p (c ++ x ++ y) = pr q p u ∧ pr q p w <+: pr q p u) ∨ (pr q p (c ++ x ++ y) = pr q p w ∧ pr q p u <+: pr q p w) := by
  rw [pr_app, pr_app, hu p, hw p]
  rcases apart_nil S ha p with e | e
  · rw [e]
    exact .inr ⟨by simp, by simp⟩
  · rw [e]
    exact .inl ⟨by simp, by simp⟩
/-- F is a longest one of the first k words, at each place -/
structure Top (q : Nat → Nat → Bool) (ws : List (List Nat)) (k : Nat) (f : List Nat) : Prop where
  up : ∀ p i, (hi : i < ws.length) → i < k → pr q p ws[i] <+: pr q p f
  on : ∀ p, pr q p f = [] ∨ ∃ i, ∃ hi : i < ws.length, i < k ∧ pr q p f = pr q p ws[i]
theorem Top.zero {ws : List (List Nat)} : Top q ws 0 [] := ⟨fun _ _ _ h => absurd h (Nat.not_lt_zero _), fun _ => .inl rfl⟩
theorem Top.cmp {ws : List (List Nat)} {k : Nat} {f : List Nat} (T : Top q ws k f) (hk : k < ws.length) (hc : ∀ i j, (hi : i < ws.length) → (hj : j < ws.length) → i < j → ∀ p, Cmp (pr q p ws[i]) (pr q p ws[j])) (p : Nat) : Cmp (pr q p f) (pr q p ws[k]) := by
  rcases T.on p with e | ⟨i, hi, hik, e⟩
  · rw [e]; exact .inl List.nil_prefix
  · rw [e]; exact hc i k hi hk hik p
theorem Top.step {ws : List (List Nat)} {k : Nat} {f g : List Nat} (T : Top q ws k f) (hk : k < ws.length) (h : ∀ p, (pr q p g = pr q p f ∧ pr q p ws[k] <+: pr q p f) ∨ (pr q p g = pr q p ws[k] ∧ pr q p f <+: pr q p ws[k])) : Top q ws (k + 1) g := by
  refine ⟨fun p i hi hik => ?_, fun p => ?_⟩
  · rcases Nat.lt_succ_iff_lt_or_eq.mp hik with z | z
    · rcases h p with ⟨e, _⟩ | ⟨e, l⟩
      · rw [e]; exact T.up p i hi z
      · rw [e]; exact (T.up p i hi z).trans l
    · subst z
      rcases h p with ⟨e, l⟩ | ⟨e, _⟩
      · rw [e]; exact l
      · rw [e]; exact List.prefix_rfl
  · rcases h p with ⟨e, _⟩ | ⟨e, _⟩
    · rcases T.on p with e2 | ⟨i, hi, hik, e2⟩
      · exact .inl (by rw [e, e2])
      · exact .inr ⟨i, hi, by omega, by rw [e, e2]⟩
    · exact .inr ⟨k, hk, by omega, e⟩
/-- how often a letter stands in a word -/
abbrev cnt (a : Nat) (w : List Nat) : Nat := (w.filter fun x => decide (x = a)).length
theorem cnt_pr {a p : Nat} (h : q p a = true) (w : List Nat) : cnt a w = cnt a (pr q p w) := by
  unfold cnt pr
  rw [List.filter_filter]
  congr 1
  apply List.filter_congr
  intro x _
  by_cases hx : x = a
  · subst hx; simp [h]
  · simp [hx]
theorem cnt_mono {a : Nat} {u w : List Nat} (h : u <+: w) : cnt a u ≤ cnt a w := by
  obtain ⟨t, rfl⟩ := h
  unfold cnt
  rw [List.filter_append, List.length_append]
  omega
/-- the letter's number in the join is the greatest of the words' -/
theorem Top.cnt {ws : List (List Nat)} {f : List Nat} (T : Top q ws ws.length f) {a : Nat} (ha : Pla q a) : (∀ w ∈ ws, TT.cnt a w ≤ TT.cnt a f) ∧ (TT.cnt a f = 0 ∨ ∃ w ∈ ws, TT.cnt a f = TT.cnt a w) := by
  obtain ⟨p, hp⟩ := ha
  refine ⟨fun w hw => ?_, ?_⟩
  · obtain ⟨i, hi, rfl⟩ := List.getElem_of_mem hw
    rw [cnt_pr hp, cnt_pr hp f]
    exact cnt_mono (T.up p i hi hi)
  · rcases T.on p with e | ⟨i, hi, _, e⟩
    · left
      rw [cnt_pr hp, e]
      rfl
    · right
      refine ⟨ws[i], List.getElem_mem hi, ?_⟩
      rw [cnt_pr hp, e, ← cnt_pr hp]
/-! ### what is common to several words -/
/-- d is a common beginning of all -/
def Com (q : Nat → Nat → Bool) (d : List Nat) (ws : List (List Nat)) : Prop := ∀ w ∈ ws, ∀ p, pr q p d <+: pr q p w
theorem gcs_com (S : Sys m q) {n f : Nat} {ws : List (List Nat)} : Com q (gcs m n f ws) ws := fun w hw p => by
  obtain ⟨v, hv⟩ := gcs_remAll (m := m) (n := n) f ws w hw
  exact ⟨pr q p v, (remAll_pr S hv p).symm⟩
theorem pre_antisymm {u v : List Nat} (h1 : u <+: v) (h2 : v <+: u) : u = v := h1.eq_of_length (Nat.le_antisymm h1.length_le h2.length_le)
/-! ### the least form -/
/-- nothing is barred, told without numbers: after x, the lesser letters that do not meet x are barred -/
def barOk (m : Nat → Nat → Bool) : (Nat → Bool) → List Nat → Bool
  | _, [] => true
  | b, x :: xs => !b x && barOk m (fun y => (b y || decide (y < x)) && !m x y) xs
theorem lf_ok (m : Nat → Nat → Bool) (hs : ∀ a b, m a b = m b a) : ∀ (n : Nat) (w : List Nat) (b : Nat → Bool), w.length ≤ n → (∀ k ∈ fl m w, b (w.getD k 0) = false) → barOk m b (lf m n w) = true
  | 0, _, _, _, _ => rfl
  | n + 1, w, b, hl, hb => by
    unfold lf
    by_cases hw : w = []
    · subst hw
      rw [best_none]
      rfl
    · obtain ⟨k, e, hk, hmin⟩ := best_some (m := m) hw
      have hlt := fl_lt hk
      rw [e]
      dsimp only
      rw [barOk, hb k hk]
      simp only [Bool.not_false, Bool.true_and]
      apply lf_ok m hs n
      · rw [List.length_eraseIdx]; simp [hlt]; omega
      · intro j hj
        -- a letter that is minimal now, or was, or meets the one taken
        have hjl := fl_lt hj
        rw [List.length_eraseIdx] at hjl
        simp only [hlt, if_true] at hjl
        have hjm : ∀ x ∈ (w.eraseIdx k).take j, m x ((w.eraseIdx k).getD j 0) = false := by
          unfold fl at hj
          rw [List.mem_filter] at hj
          have := hj.2
          unfold minAt at this
          rw [List.all_eq_true] at this
          intro x hx
          have := this x hx
          simpa using this
        cases hm : m (w.getD k 0) ((w.eraseIdx k).getD j 0) with
        | true => simp
        | false =>
          simp only [Bool.not_false, Bool.and_true]
          -- then it is minimal in w
          obtain ⟨i, hi, hiw⟩ : ∃ i, i ∈ fl m w ∧ w.getD i 0 = (w.eraseIdx k).getD j 0 := by
            by_cases hjk : j < k
            · refine ⟨j, ?_, ?_⟩
              · unfold fl
                rw [List.mem_filter, List.mem_range]
                refine ⟨by omega, ?_⟩
                unfold minAt
                rw [List.all_eq_true]
                intro x hx
                have e1 : (w.eraseIdx k).take j = w.take j := by
                  rw [List.eraseIdx_eq_take_drop_succ, List.take_append_of_le_length (by simp; omega), List.take_take]
                  congr 1
                  omega
                have e2 : (w.eraseIdx k).getD j 0 = w.getD j 0 := by
                  rw [List.getD_eq_getElem?_getD, List.getD_eq_getElem?_getD, List.getElem?_eraseIdx, if_pos hjk]
                rw [e1, e2] at hjm
                rw [hjm x hx]
                rfl
              · rw [List.getD_eq_getElem?_getD, List.getD_eq_getElem?_getD, List.getElem?_eraseIdx, if_pos hjk]
            · have e2 : (w.eraseIdx k).getD j 0 = w.getD (j + 1) 0 := by
                rw [List.getD_eq_getElem?_getD, List.getD_eq_getElem?_getD, List.getElem?_eraseIdx, if_neg hjk]
              refine ⟨j + 1, ?_, e2.symm⟩
              unfold fl
              rw [List.mem_filter, List.mem_range]
              refine ⟨by omega, ?_⟩
              unfold minAt
              rw [List.all_eq_true]
              intro x hx
              rw [e2] at hjm hm
              obtain ⟨i, hi, rfl⟩ := List.mem_iff_getElem.mp hx
              rw [List.getElem_take]
              rw [List.length_take] at hi
              by_cases hik : i = k
              · subst hik
                rw [getD_at hlt] at hm
                rw [hm]
                rfl
              · have : w[i] ∈ (w.eraseIdx k).take j := by
                  rw [List.mem_iff_getElem?]
                  by_cases hik2 : i < k
                  · refine ⟨i, ?_⟩
                    rw [List.getElem?_take, if_pos (by omega), List.getElem?_eraseIdx, if_pos hik2, List.getElem?_eq_getElem]
                  · refine ⟨i - 1, ?_⟩
                    rw [List.getElem?_take, if_pos (by omega), List.getElem?_eraseIdx, if_neg (by omega), show i - 1 + 1 = i by omega, List.getElem?_eq_getElem]
                rw [hjm _ this]
                rfl
          have h1 := hb i hi
          have h2 := hmin i hi
          rw [hiw] at h1 h2
          rw [h1, Bool.false_or, decide_eq_false_iff_not]
          omega
theorem least_ok (m : Nat → Nat → Bool) (hs : ∀ a b, m a b = m b a) (w : List Nat) : barOk m (fun _ => false) (least m w) = true := lf_ok m hs _ w _ (Nat.le_refl _) fun _ _ => rfl
end
end TT
set_option Elab.async false
set_option linter.all false
/-! M79e: what is common to several words, by turns and at once; what lies below, backward and forward. -/
namespace TT
section
variable {m q : Nat → Nat → Bool}
def Good (q : Nat → Nat → Bool) (n : Nat) (w : List Nat) : Prop := ∀ a ∈ w, a < n ∧ Pla q a
/-- f is the greatest common beginning of ws, at each place -/
structure GC (q : Nat → Nat → Bool) (n : Nat) (f : List Nat) (ws : List (List Nat)) : Prop where
  good : Good q n f
  com : Com q f ws
  great : ∀ d, Good q n d → Com q d ws → ∀ p, pr q p d <+: pr q p f
theorem GC.uniq {n : Nat} {f g : List Nat} {ws : List (List Nat)} (a : GC q n f ws) (b : GC q n g ws) (p : Nat) : pr q p f = pr q p g :=
  pre_antisymm (b.great f a.good a.com p) (a.great g b.good b.com p)
theorem gcs_good {n : Nat} (hn : ∀ a, a < n → Pla q a) : ∀ (f : Nat) (ws : List (List Nat)), Good q n (gcs m n f ws)
  | 0, _, _, h => by cases h
  | f + 1, ws, x, h => by
    unfold gcs at h
    cases e : nx m n ws with
    | none => rw [e] at h; cases h
    | some a =>
      rw [e] at h
      rcases List.mem_cons.mp h with rfl | h
      · exact ⟨(nx_all e).1, hn _ (nx_all e).1⟩
      · exact gcs_good hn f _ x h
theorem gcs_GC (S : Sys m q) {n : Nat} (hn : ∀ a, a < n → Pla q a) {ws : List (List Nat)} {w0 : List Nat} (h0 : w0 ∈ ws) : GC q n (gcs m n (w0.length + 1) ws) ws :=
  ⟨gcs_good hn _ _, gcs_com S, fun d hd hc p => gcs_great S _ ws w0 h0 (Nat.lt_succ_self _) d hd hc p⟩
theorem GC.least (S : Sys m q) {n : Nat} {f : List Nat} {ws : List (List Nat)} (a : GC q n f ws) : GC q n (least m f) ws :=
  ⟨fun x hx => a.good x (least_mem hx), fun w hw p => by rw [least_proj S]; exact a.com w hw p, fun d hd hc p => by rw [least_proj S]; exact a.great d hd hc p⟩
theorem GC.step (S : Sys m q) {n : Nat} (hn : ∀ a, a < n → Pla q a) {f w : List Nat} {ws : List (List Nat)} (a : GC q n f ws) : GC q n (gcs m n (f.length + 1) [f, w]) (ws ++ [w]) := by
  have g := gcs_GC S hn (ws := [f, w]) (w0 := f) List.mem_cons_self
  refine ⟨g.good, fun v hv p => ?_, fun d hd hc p => g.great d hd (fun v hv p => ?_) p⟩
  · rcases List.mem_append.mp hv with hv | hv
    · exact (g.com f List.mem_cons_self p).trans (a.com v hv p)
    · rw [List.mem_singleton] at hv; subst hv
      exact g.com v (by simp) p
  · rcases List.mem_cons.mp hv with rfl | hv
    · exact a.great d hd (fun z hz p => hc z (List.mem_append_left _ hz) p) p
    · rw [List.mem_singleton] at hv; subst hv
      exact hc v (by simp) p
theorem GC.one {n : Nat} {w : List Nat} (h : Good q n w) : GC q n w [w] :=
  ⟨h, fun v hv p => by rw [List.mem_singleton] at hv; subst hv; exact List.prefix_rfl, fun d _ hc p => hc w (by simp) p⟩
theorem GC.fold (S : Sys m q) {n : Nat} (hn : ∀ a, a < n → Pla q a) : ∀ (ts : List (List Nat)) (f : List Nat) (ws : List (List Nat)), GC q n f ws → GC q n (ts.foldl (fun f w => TT.least m (gcs m n (f.length + 1) [f, w])) f) (ws ++ ts)
  | [], f, ws, h => by simpa using h
  | t :: ts, f, ws, h => by
    have := GC.fold S hn ts _ (ws ++ [t]) ((h.step S hn (w := t)).least S)
    simpa using this
theorem common_pr (S : Sys m q) {n : Nat} (hn : ∀ a, a < n → Pla q a) {w0 : List Nat} {ts : List (List Nat)} (h0 : Good q n w0) (p : Nat) :
    pr q p (ts.foldl (fun f w => least m (gcs m n (f.length + 1) [f, w])) (least m w0)) = pr q p (gcs m n (w0.length + 1) (w0 :: ts)) := by
  have a := GC.fold S hn ts (least m w0) [w0] ((GC.one h0).least S)
  have b := gcs_GC S hn (ws := w0 :: ts) (w0 := w0) List.mem_cons_self
  exact a.uniq b p
end
/-! ### below -/
section
variable (m : Nat → Nat → Bool) (w : List Nat)
/-- a chain of meeting letters from place i to place k -/
inductive Rch : Nat → Nat → Prop
  | refl (i : Nat) : Rch i i
  | step {i j k : Nat} (h : i < j) (hm : m (w.getD i 0) (w.getD j 0) = true) (r : Rch j k) : Rch i k
variable {m w}
theorem Rch.snoc {i j k : Nat} (r : Rch m w i j) (h : j < k) (hm : m (w.getD j 0) (w.getD k 0) = true) : Rch m w i k := by
  induction r with
  | refl i => exact .step h hm (.refl _)
  | step h' hm' _ ih => exact .step h' hm' (ih h hm)
theorem Rch.le {i k : Nat} (r : Rch m w i k) : i ≤ k := by
  induction r with
  | refl i => exact Nat.le_refl _
  | step h _ _ ih => omega
theorem Rch.last {i k : Nat} (r : Rch m w i k) : i = k ∨ ∃ j, Rch m w i j ∧ j < k ∧ m (w.getD j 0) (w.getD k 0) = true := by
  induction r with
  | refl i => exact .inl rfl
  | step h hm r ih =>
    rename_i i j k
    rcases ih with rfl | ⟨z, r2, h2, hm2⟩
    · exact .inr ⟨i, .refl _, h, hm⟩
    · exact .inr ⟨z, .step h hm r2, h2, hm2⟩
/-- what is gone, forward -/
def gon (m : Nat → Nat → Bool) (w ev : List Nat) : Nat → List Nat
  | 0 => []
  | n + 1 => if ev.contains n || (gon m w ev n).any fun j => m (w.getD j 0) (w.getD n 0) then gon m w ev n ++ [n] else gon m w ev n
theorem mem_gon {ev : List Nat} {k : Nat} : ∀ n, (k ∈ gon m w ev n ↔ k < n ∧ ∃ e ∈ ev, Rch m w e k)
  | 0 => by simp [gon]
  | n + 1 => by
    have ih := fun k => @mem_gon ev k n
    have key : (ev.contains n || (gon m w ev n).any fun j => m (w.getD j 0) (w.getD n 0)) = true ↔ ∃ e ∈ ev, Rch m w e n := by
      rw [Bool.or_eq_true, List.any_eq_true]
      constructor
      · rintro (h | ⟨j, hj, hm⟩)
        · exact ⟨n, by simpa using h, .refl _⟩
        · obtain ⟨hjn, e, he, r⟩ := (ih j).mp hj
          exact ⟨e, he, r.snoc hjn hm⟩
      · rintro ⟨e, he, r⟩
        rcases r.last with rfl | ⟨j, r2, h2, hm2⟩
        · exact .inl (by simpa using he)
        · exact .inr ⟨j, (ih j).mpr ⟨h2, e, he, r2⟩, hm2⟩
    unfold gon
    by_cases hc : (ev.contains n || (gon m w ev n).any fun j => m (w.getD j 0) (w.getD n 0)) = true
    · rw [if_pos hc, List.mem_append, ih k, List.mem_singleton]
      constructor
      · rintro (⟨h1, h2⟩ | rfl)
        · exact ⟨by omega, h2⟩
        · exact ⟨by omega, key.mp hc⟩
      · rintro ⟨h1, h2⟩
        by_cases hk : k = n
        · exact .inr hk
        · exact .inl ⟨by omega, h2⟩
    · rw [if_neg hc, ih k]
      constructor
      · rintro ⟨h1, h2⟩
        exact ⟨by omega, h2⟩
      · rintro ⟨h1, h2⟩
        refine ⟨?_, h2⟩
        by_cases hk : k = n
        · subst hk
          exact absurd (key.mpr h2) hc
        · omega
end
end TT
set_option Elab.async false
set_option linter.all false
set_option maxRecDepth 100000
set_option maxHeartbeats 8000000
namespace K78
open PySem PySem.Spec L2 Z
def top (i : Nat) : Stmt := PySem.Challenge.pw_tracetalk_k78_hands.main.body.getD i (.Pass ⟨0, 0, 0, 0⟩)
/-- which names are not the module's own -/
structure Bt (mg : Str → Option Value) : Prop where
  all : mg "all" = none
  any : mg "any" = none
  bool : mg "bool" = none
  dict : mg "dict" = none
  int : mg "int" = none
  isinstance : mg "isinstance" = none
  len : mg "len" = none
  list : mg "list" = none
  range : mg "range" = none
  sorted : mg "sorted" = none
  str : mg "str" = none
  tuple : mg "tuple" = none
theorem b_all : bootBuiltins "all" = some (.builtin "all") := by decide +kernel
theorem b_any : bootBuiltins "any" = some (.builtin "any") := by decide +kernel
theorem b_bool : bootBuiltins "bool" = some (.type "bool") := by decide +kernel
theorem b_dict : bootBuiltins "dict" = some (.type "dict") := by decide +kernel
theorem b_int : bootBuiltins "int" = some (.type "int") := by decide +kernel
theorem b_isinstance : bootBuiltins "isinstance" = some (.builtin "isinstance") := by decide +kernel
theorem b_len : bootBuiltins "len" = some (.builtin "len") := by decide +kernel
theorem b_list : bootBuiltins "list" = some (.type "list") := by decide +kernel
theorem b_range : bootBuiltins "range" = some (.type "range") := by decide +kernel
theorem b_sorted : bootBuiltins "sorted" = some (.builtin "sorted") := by decide +kernel
theorem b_str : bootBuiltins "str" = some (.type "str") := by decide +kernel
theorem b_tuple : bootBuiltins "tuple" = some (.type "tuple") := by decide +kernel
structure Cs (mg : Str → Option Value) : Prop where
  MOST_HANDS : ∃ t, mg "MOST_HANDS" = some (.int 4 t)
  MOST_LETTERS : ∃ t, mg "MOST_LETTERS" = some (.int 6 t)
  MOST_PLACES : ∃ t, mg "MOST_PLACES" = some (.int 4 t)
section
variable {P : Program} {w : World} {K : PySem.W.Frag} {mg : Str → Option Value} {base : Heap} {ca : Cn}
abbrev s__law_told : Stmt := top 29
theorem sc__law_told : FnScope ["call"] ["call"] (defScope s__law_told) := ⟨rfl, rfl, rfl, by decide +kernel, rfl, by decide +kernel, by decide +kernel⟩
theorem gets__law_told {X : Cx} {ca : Cn} {f : Addr} {fd : FuncData} {q : Str} {k : Nat} (D : Dg X.K X.mg "_law_told" "_law_told" s__law_told ["call"] f fd) (Ex_A : ExF X.K X.mg ca "InvalidHand" 3) (Ex_B : ExF X.K X.mg ca "NotReady" 2) : Gets X "_law_told" "call" k (TTold2 X.K (ca.ad 3) (ca.ad 2) "hand" "ready") q := by
  obtain ⟨oc, od, kV, doc, pm, an, cdv, ct, osl, rfl, lk, hcd⟩ := D.F.ex
  exact ⟨f, _, _, _, .none, kV, doc, pm, cdv, ct, oc, an, od, osl, ["call"], D.m, D.F.kp, lk, hcd, D.b, sc__law_told, rfl, Or.inl rfl, told_gives2 rfl rfl rfl Ex_A.g rfl rfl Ex_B.g rfl (fun _ => rfl)⟩
abbrev s_fits : Stmt := top 8
theorem sc_fits : FnScope ["letter", "places", "k"] ["letter", "places"] (defScope s_fits) := ⟨rfl, rfl, rfl, by decide +kernel, rfl, by decide +kernel, by decide +kernel⟩
noncomputable def S_fits : ST := (sSeq (sIf (eTB (e2 fEq (ed (eA fLen (aCons (eVar 0) aNil))) (eC (.int 0)))) (sRet (ev (eC (.bl false)))) sPass)
  (sSeq (sFor (iR1 (aCons (ed (eA fLen (aCons (eVar 0) aNil))) aNil)) (tN 2) (sIf (bOr (eTB (e2 fLt (ed (e2 fIx (eVar 0) (eVar 2))) (eC (.int 0)))) (bOr (eTB (e2 fGe (ed (e2 fIx (eVar 0) (eVar 2))) (eVar 1))) (bAnd (eTB (e2 fGt (eVar 2) (eC (.int 0)))) (eTB (e2 fLe (ed (e2 fIx (eVar 0) (eVar 2))) (ed (e2 fIx (eVar 0) (ed (e2 fSub (eVar 2) (eC (.int 1))))))))))) (sRet (ev (eC (.bl false)))) sPass) [2])
  (sRet (ev (eC (.bl true))))))
noncomputable def B_fits : BD := body 3 S_fits
theorem ok_fits {f_ : Addr} {fd_ : FuncData} (F0 : Fun K "fits" "fits" s_fits f_ fd_) (bt : Bt mg) :
    FnOk P w K mg base (L2.CX P w) 1 f_ fd_ ["letter", "places"] (spB ca 2 B_fits) := by
  have N : (["letter", "places", "k"] : List Str).Nodup := sc_fits.nd
  refine def_ok F0 sc_fits fun cdv A outer s H E hr => ?_
  have hu65 : (cxOf (L2.CX P w) P w K mg base ["letter", "places", "k"] "fits" (defScope s_fits) f_ cdv A outer s H E).A.units + 65 < cLine := by have := hr.un; show (A.deeper _).units + 65 < cLine; omega
  have hu64 : (cxOf (L2.CX P w) P w K mg base ["letter", "places", "k"] "fits" (defScope s_fits) f_ cdv A outer s H E).A.units + 64 < cLine := by omega
  have hu1 : (cxOf (L2.CX P w) P w K mg base ["letter", "places", "k"] "fits" (defScope s_fits) f_ cdv A outer s H E).A.units + 1 < cLine := by omega
  have tk : Takes (cxOf (L2.CX P w) P w K mg base ["letter", "places", "k"] "fits" (defScope s_fits) f_ cdv A outer s H E) (fun cls d _ H' => E cls d H') := takes_of rfl rfl rfl rfl
  unfold S_fits
  exact (sss_cons (ss_if (sb_cmp (op_eqD hu64) lk_eq (SD.of (se_b (pe_callB cr_len rfl bt.len b_len (sa_cons (sd_var (pv 0)) sa_nil rfl)) lk_len)) sd_int (nomark _)) (sss_one (ss_ret (SE.of sd_bl))) sss_nil)
    (sss_cons (ss_for [2] (passes_of rfl) rfl (si_r1 (pi_range1 rfl bt.range (sa_cons (SD.of (se_b (pe_callB cr_len rfl bt.len b_len (sa_cons (sd_var (pv 0)) sa_nil rfl)) lk_len)) sa_nil rfl))) (sg_name (pg_name (i := 2) N rfl (by first | exact Or.inl rfl | exact Or.inr rfl))) (sss_one (ss_if (sb_w (sw_or (sb_cmp op_lt lk_lt (SD.of (se_ix hu1 (sd_var (pv 0)) (sd_var (pv 2)) (fun _ _ => rfl))) sd_int (nomark _)) (sw_or (sb_cmp op_ge lk_ge (SD.of (se_ix hu1 (sd_var (pv 0)) (sd_var (pv 2)) (fun _ _ => rfl))) (sd_var (pv 1)) (nomark _)) (sw_or1 (sb_w (sw_and (sb_cmp op_gt lk_gt (sd_var (pv 2)) sd_int (nomark _)) (sw_and1 (sb_cmp op_le lk_le (SD.of (se_ix hu1 (sd_var (pv 0)) (sd_var (pv 2)) (fun _ _ => rfl))) (SD.of (se_ix hu1 (sd_var (pv 0)) (SD.of (se_op op_sub lk_sub (sd_var (pv 2)) sd_int)) (fun _ _ => rfl))) (nomark _))))))))) (sss_one (ss_ret (SE.of sd_bl))) sss_nil)) (fun _ => rfl))
    (sss_one (ss_ret (SE.of sd_bl)))))
abbrev s_independent : Stmt := top 10
theorem sc_independent : FnScope ["alphabet", "first", "second", "place"] ["alphabet", "first", "second"] (defScope s_independent) := ⟨rfl, rfl, rfl, by decide +kernel, rfl, by decide +kernel, by decide +kernel⟩
noncomputable def S_independent : ST := (sSeq (sFor (iSeq (ed (e2 fIx (ed (e1 (fFld [0] 1) (eVar 0))) (eVar 1)))) (tN 3) (sIf (eTB (e2 fIn (eVar 3) (ed (e2 fIx (ed (e1 (fFld [0] 1) (eVar 0))) (eVar 2))))) (sRet (ev (eC (.bl false)))) sPass) [3])
  (sRet (ev (eC (.bl true)))))
noncomputable def B_independent : BD := body 4 S_independent
theorem ok_independent {f_ : Addr} {fd_ : FuncData} (F0 : Fun K "independent" "independent" s_independent f_ fd_) (C_Alphabet : ClF ca K 0 ["places", "letters"]) :
    FnOk P w K mg base (L2.CX P w) 1 f_ fd_ ["alphabet", "first", "second"] (spB ca 3 B_independent) := by
  have N : (["alphabet", "first", "second", "place"] : List Str).Nodup := sc_independent.nd
  refine def_ok F0 sc_independent fun cdv A outer s H E hr => ?_
  have hu65 : (cxOf (L2.CX P w) P w K mg base ["alphabet", "first", "second", "place"] "independent" (defScope s_independent) f_ cdv A outer s H E).A.units + 65 < cLine := by have := hr.un; show (A.deeper _).units + 65 < cLine; omega
  have hu64 : (cxOf (L2.CX P w) P w K mg base ["alphabet", "first", "second", "place"] "independent" (defScope s_independent) f_ cdv A outer s H E).A.units + 64 < cLine := by omega
  have hu1 : (cxOf (L2.CX P w) P w K mg base ["alphabet", "first", "second", "place"] "independent" (defScope s_independent) f_ cdv A outer s H E).A.units + 1 < cLine := by omega
  have tk : Takes (cxOf (L2.CX P w) P w K mg base ["alphabet", "first", "second", "place"] "independent" (defScope s_independent) f_ cdv A outer s H E) (fun cls d _ H' => E cls d H') := takes_of rfl rfl rfl rfl
  unfold S_independent
  exact (sss_cons (ss_for [3] (passes_of rfl) rfl (si_seq (SD.of (se_ix hu1 (SD.of (se_fld (sd_var (pv 0)) rfl (C_Alphabet.at (i := 1) (by decide +kernel) rfl))) (sd_var (pv 1)) (fun _ _ => rfl)))) (sg_name (pg_name (i := 3) N rfl (by first | exact Or.inl rfl | exact Or.inr rfl))) (sss_one (ss_if (sb_cmp (op_in hu65) lk_in (sd_var (pv 3)) (SD.of (se_ix hu1 (SD.of (se_fld (sd_var (pv 0)) rfl (C_Alphabet.at (i := 1) (by decide +kernel) rfl))) (sd_var (pv 2)) (fun _ _ => rfl))) rfl) (sss_one (ss_ret (SE.of sd_bl))) sss_nil)) (fun _ => rfl))
    (sss_one (ss_ret (SE.of sd_bl))))
abbrev s_Table___init__ : Stmt := inClass (top 17) 0
theorem sc_Table___init__ : FnScope ["self", "alphabet", "hands", "_"] ["self", "alphabet", "hands"] (defScope s_Table___init__) := ⟨rfl, rfl, rfl, by decide +kernel, rfl, by decide +kernel, by decide +kernel⟩
noncomputable def S_Table___init__ : ST := (sSeq (sIf (bNot (eTB (eCh fLe fLe (eC (.int 1)) (eVar 2) (eC (.int 4))))) (sRaise 3) sPass)
  (sSeq (sAtt [1] 0 (eVar 0) (eVar 1))
  (sSeq (sAtt [1] 1 (eVar 0) (eAl (eComp (iR1 (aCons (eVar 2) aNil)) (tN 3) bYes (eTup aNil) [3])))
  (sSeq (sAtt [1] 2 (eVar 0) (eAl (eLst aNil)))
  (sAtt [1] 3 (eVar 0) (eC (.int 0)))))))
noncomputable def B_Table___init__ : BD := body 4 S_Table___init__
theorem ok_Table___init__ {f_ : Addr} {fd_ : FuncData} (F0 : Fun K "__init__" "Table.__init__" s_Table___init__ f_ fd_) (bt : Bt mg) (cs : Cs mg) (C_Table : ClF ca K 1 ["_alphabet", "_rows", "_events", "_count"]) (Ex_InvalidHand : ExF K mg ca "InvalidHand" 3) :
    FnOk P w K mg base (L2.CX P w) 1 f_ fd_ ["self", "alphabet", "hands"] (spB ca 3 B_Table___init__) := by
  have N : (["self", "alphabet", "hands", "_"] : List Str).Nodup := sc_Table___init__.nd
  obtain ⟨_, c_MOST_HANDS⟩ := cs.MOST_HANDS
  refine def_ok F0 sc_Table___init__ fun cdv A outer s H E hr => ?_
  have hu65 : (cxOf (L2.CX P w) P w K mg base ["self", "alphabet", "hands", "_"] "Table.__init__" (defScope s_Table___init__) f_ cdv A outer s H E).A.units + 65 < cLine := by have := hr.un; show (A.deeper _).units + 65 < cLine; omega
  have hu64 : (cxOf (L2.CX P w) P w K mg base ["self", "alphabet", "hands", "_"] "Table.__init__" (defScope s_Table___init__) f_ cdv A outer s H E).A.units + 64 < cLine := by omega
  have hu1 : (cxOf (L2.CX P w) P w K mg base ["self", "alphabet", "hands", "_"] "Table.__init__" (defScope s_Table___init__) f_ cdv A outer s H E).A.units + 1 < cLine := by omega
  have tk : Takes (cxOf (L2.CX P w) P w K mg base ["self", "alphabet", "hands", "_"] "Table.__init__" (defScope s_Table___init__) f_ cdv A outer s H E) (fun cls d _ H' => E cls d H') := takes_of rfl rfl rfl rfl
  unfold S_Table___init__
  exact (sss_cons (ss_if (sb_not (sb_ch op_le op_le lk_le lk_le sd_int (sd_var (pv 2)) (sd_glob (v := .int 4) (pe_glob rfl c_MOST_HANDS ⟨_, rfl⟩) (fun _ _ => .int _)) (by with_unfolding_all rfl))) (sss_one (ss_raise (c := 3) rfl tk (pmk_own PySem.F.excBase_ValueError Ex_InvalidHand.ex Ex_InvalidHand.g Ex_InvalidHand.kp (raises_own Ex_InvalidHand.b Ex_InvalidHand.t) rfl))) sss_nil)
    (sss_cons (ss_att (sd_var (pv 0)) (sd_var (pv 1)) (C_Table.at (i := 0) (by decide +kernel) rfl) rfl)
    (sss_cons (ss_att (sd_var (pv 0)) (sd_al (se_lc (own := [(("_" : Str), 3)]) rfl N (si_r1 (pi_range1 rfl bt.range (sa_cons (sd_var (pv 2)) sa_nil rfl))) (blkOk_by (by rfl)) (fun _ _ _ _ _ => by exact (sgw_name (pg_name (i := 3) N rfl (by first | exact Or.inl rfl | exact Or.inr rfl)) (by decide))) (fun _ _ _ _ _ => by exact sts_nil) (fun _ _ _ _ _ => by exact (sd_tup sa_nil)) (fun _ => rfl))) (C_Table.at (i := 1) (by decide +kernel) rfl) rfl)
    (sss_cons (ss_att (sd_var (pv 0)) (sd_al (se_lst sa_nil)) (C_Table.at (i := 2) (by decide +kernel) rfl) rfl)
    (sss_one (ss_att (sd_var (pv 0)) sd_int (C_Table.at (i := 3) (by decide +kernel) rfl) rfl))))))
abbrev s_Table__check : Stmt := inClass (top 17) 1
theorem sc_Table__check : FnScope ["self", "hand"] ["self", "hand"] (defScope s_Table__check) := ⟨rfl, rfl, rfl, by decide +kernel, rfl, by decide +kernel, by decide +kernel⟩
noncomputable def S_Table__check : ST := (sIf (bNot (eTB (eCh fLe fLt (eC (.int 0)) (eVar 1) (ed (eA fLen (aCons (ed (e1 (fFld [1] 1) (eVar 0))) aNil)))))) (sRaise 3) sPass)
noncomputable def B_Table__check : BD := body 2 S_Table__check
theorem ok_Table__check {f_ : Addr} {fd_ : FuncData} (F0 : Fun K "_check" "Table._check" s_Table__check f_ fd_) (bt : Bt mg) (C_Table : ClF ca K 1 ["_alphabet", "_rows", "_events", "_count"]) (Ex_InvalidHand : ExF K mg ca "InvalidHand" 3) :
    FnOk P w K mg base (L2.CX P w) 1 f_ fd_ ["self", "hand"] (spB ca 2 B_Table__check) := by
  have N : (["self", "hand"] : List Str).Nodup := sc_Table__check.nd
  refine def_ok F0 sc_Table__check fun cdv A outer s H E hr => ?_
  have hu65 : (cxOf (L2.CX P w) P w K mg base ["self", "hand"] "Table._check" (defScope s_Table__check) f_ cdv A outer s H E).A.units + 65 < cLine := by have := hr.un; show (A.deeper _).units + 65 < cLine; omega
  have hu64 : (cxOf (L2.CX P w) P w K mg base ["self", "hand"] "Table._check" (defScope s_Table__check) f_ cdv A outer s H E).A.units + 64 < cLine := by omega
  have hu1 : (cxOf (L2.CX P w) P w K mg base ["self", "hand"] "Table._check" (defScope s_Table__check) f_ cdv A outer s H E).A.units + 1 < cLine := by omega
  have tk : Takes (cxOf (L2.CX P w) P w K mg base ["self", "hand"] "Table._check" (defScope s_Table__check) f_ cdv A outer s H E) (fun cls d _ H' => E cls d H') := takes_of rfl rfl rfl rfl
  unfold S_Table__check
  exact (sss_one (ss_if (sb_not (sb_ch op_le op_lt lk_le lk_lt sd_int (sd_var (pv 1)) (SD.of (se_b (pe_callB cr_len rfl bt.len b_len (sa_cons (SD.of (se_fld (sd_var (pv 0)) rfl (C_Table.at (i := 1) (by decide +kernel) rfl))) sa_nil rfl)) lk_len)) (by with_unfolding_all rfl))) (sss_one (ss_raise (c := 3) rfl tk (pmk_own PySem.F.excBase_ValueError Ex_InvalidHand.ex Ex_InvalidHand.g Ex_InvalidHand.kp (raises_own Ex_InvalidHand.b Ex_InvalidHand.t) rfl))) sss_nil))
abbrev s_Table__add : Stmt := inClass (top 17) 2
theorem sc_Table__add : FnScope ["self", "hand", "letter"] ["self", "hand", "letter"] (defScope s_Table__add) := ⟨rfl, rfl, rfl, by decide +kernel, rfl, by decide +kernel, by decide +kernel⟩
noncomputable def S_Table__add : ST := (sSeq (sX (ed (eM "list" fAppend (ed (e1 (fFld [1] 2) (eVar 0))) (aCons (eTup (aCons (ed (e1 (fFld [1] 3) (eVar 0))) (aCons (eVar 1) (aCons (eVar 2) aNil)))) aNil))))
  (sSeq (sAtA [1] 3 f1 (eVar 0) (eC (.int 1)))
  (sRet (e2 fSub (ed (e1 (fFld [1] 3) (eVar 0))) (eC (.int 1))))))
noncomputable def B_Table__add : BD := body 3 S_Table__add
theorem ok_Table__add {f_ : Addr} {fd_ : FuncData} (F0 : Fun K "_add" "Table._add" s_Table__add f_ fd_) (C_Table : ClF ca K 1 ["_alphabet", "_rows", "_events", "_count"]) :
    FnOk P w K mg base (L2.CX P w) 1 f_ fd_ ["self", "hand", "letter"] (spB ca 3 B_Table__add) := by
  have N : (["self", "hand", "letter"] : List Str).Nodup := sc_Table__add.nd
  refine def_ok F0 sc_Table__add fun cdv A outer s H E hr => ?_
  have hu65 : (cxOf (L2.CX P w) P w K mg base ["self", "hand", "letter"] "Table._add" (defScope s_Table__add) f_ cdv A outer s H E).A.units + 65 < cLine := by have := hr.un; show (A.deeper _).units + 65 < cLine; omega
  have hu64 : (cxOf (L2.CX P w) P w K mg base ["self", "hand", "letter"] "Table._add" (defScope s_Table__add) f_ cdv A outer s H E).A.units + 64 < cLine := by omega
  have hu1 : (cxOf (L2.CX P w) P w K mg base ["self", "hand", "letter"] "Table._add" (defScope s_Table__add) f_ cdv A outer s H E).A.units + 1 < cLine := by omega
  have tk : Takes (cxOf (L2.CX P w) P w K mg base ["self", "hand", "letter"] "Table._add" (defScope s_Table__add) f_ cdv A outer s H E) (fun cls d _ H' => E cls d H') := takes_of rfl rfl rfl rfl
  unfold S_Table__add
  exact (sss_cons (ss_expr (SD.of (se_m (pe_bm PySem.F.plainAttrs_list PySem.F.slot_list_append PySem.F.type_list_append mt_append (SD.of (se_fld (sd_var (pv 0)) rfl (C_Table.at (i := 2) (by decide +kernel) rfl))) (sa_cons (sd_tup (sa_cons (SD.of (se_fld (sd_var (pv 0)) rfl (C_Table.at (i := 3) (by decide +kernel) rfl))) (sa_cons (sd_var (pv 1)) (sa_cons (sd_var (pv 2)) sa_nil rfl) rfl) rfl)) sa_nil rfl)) lk_append)) rfl)
    (sss_cons (ss_fldaug (sd_var (pv 0)) sd_int iop_add lk_addI (C_Table.at (i := 3) (by decide +kernel) rfl))
    (sss_one (ss_ret (se_op op_sub lk_sub (SD.of (se_fld (sd_var (pv 0)) rfl (C_Table.at (i := 3) (by decide +kernel) rfl))) sd_int)))))
abbrev s_Table__newest : Stmt := inClass (top 17) 4
theorem sc_Table__newest : FnScope ["self", "hand", "numbers", "number", "other", "_"] ["self", "hand"] (defScope s_Table__newest) := ⟨rfl, rfl, rfl, by decide +kernel, rfl, by decide +kernel, by decide +kernel⟩
noncomputable def S_Table__newest : ST := (sSeq (sSet 2 (ed (eComp (iSeq (ed (e1 (fFld [1] 2) (eVar 0)))) (tTup (tCons (tN 3) (tCons (tN 4) (tCons (tN 5) tNil)))) (eTB (e2 fEq (eVar 4) (eVar 1))) (eVar 3) [3, 4, 5])))
  (sSeq (sIf (bNot (eT (eVar 2))) (sRaise 2) sPass)
  (sRet (e2 fIx (eVar 2) (ed (e1 fNeg (eC (.int 1))))))))
noncomputable def B_Table__newest : BD := body 6 S_Table__newest
theorem ok_Table__newest {f_ : Addr} {fd_ : FuncData} (F0 : Fun K "_newest" "Table._newest" s_Table__newest f_ fd_) (C_Table : ClF ca K 1 ["_alphabet", "_rows", "_events", "_count"]) (Ex_NotReady : ExF K mg ca "NotReady" 2) :
    FnOk P w K mg base (L2.CX P w) 1 f_ fd_ ["self", "hand"] (spB ca 2 B_Table__newest) := by
  have N : (["self", "hand", "numbers", "number", "other", "_"] : List Str).Nodup := sc_Table__newest.nd
  refine def_ok F0 sc_Table__newest fun cdv A outer s H E hr => ?_
  have hu65 : (cxOf (L2.CX P w) P w K mg base ["self", "hand", "numbers", "number", "other", "_"] "Table._newest" (defScope s_Table__newest) f_ cdv A outer s H E).A.units + 65 < cLine := by have := hr.un; show (A.deeper _).units + 65 < cLine; omega
  have hu64 : (cxOf (L2.CX P w) P w K mg base ["self", "hand", "numbers", "number", "other", "_"] "Table._newest" (defScope s_Table__newest) f_ cdv A outer s H E).A.units + 64 < cLine := by omega
  have hu1 : (cxOf (L2.CX P w) P w K mg base ["self", "hand", "numbers", "number", "other", "_"] "Table._newest" (defScope s_Table__newest) f_ cdv A outer s H E).A.units + 1 < cLine := by omega
  have tk : Takes (cxOf (L2.CX P w) P w K mg base ["self", "hand", "numbers", "number", "other", "_"] "Table._newest" (defScope s_Table__newest) f_ cdv A outer s H E) (fun cls d _ H' => E cls d H') := takes_of rfl rfl rfl rfl
  unfold S_Table__newest
  exact (sss_cons (ss_setLc (own := [(("number" : Str), 3), (("other" : Str), 4), (("_" : Str), 5)]) rfl N rfl rfl (sw_true rfl rfl rfl (by decide +kernel)) (si_seq (SD.of (se_fld (sd_var (pv 0)) rfl (C_Table.at (i := 2) (by decide +kernel) rfl)))) (blkOk_by (by rfl)) (fun _ _ _ _ _ => by exact (sgw_tup rfl (sgws_cons (sgw_name (pg_name (i := 3) N rfl (by first | exact Or.inl rfl | exact Or.inr rfl)) (by decide)) (sgws_cons (sgw_name (pg_name (i := 4) N rfl (by first | exact Or.inl rfl | exact Or.inr rfl)) (by decide)) (sgws_cons (sgw_name (pg_name (i := 5) N rfl (by first | exact Or.inl rfl | exact Or.inr rfl)) (by decide)) sgws_nil rfl) rfl) rfl) (len_cons (len_cons (len_cons len_nil))) rfl rfl)) (fun _ _ _ _ _ => by exact (sts_one (sb_cmp (op_eqD hu64) lk_eq (sd_var (pv 4)) (sd_var (pv 1)) (nomark _)))) (fun _ _ _ _ _ => by exact (sd_var (pv 3))) (fun _ => rfl))
    (sss_cons (ss_if (sb_not (sb_t (sd_var (pv 2)) (fun _ => rfl))) (sss_one (ss_raise (c := 2) rfl tk (pmk_own PySem.F.excBase_ValueError Ex_NotReady.ex Ex_NotReady.g Ex_NotReady.kp (raises_own Ex_NotReady.b Ex_NotReady.t) rfl))) sss_nil)
    (sss_one (ss_ret (se_ix hu1 (sd_var (pv 2)) (SD.of (se_un un_neg lk_neg sd_int)) (fun _ _ => rfl))))))
abbrev s_Table__take_back : Stmt := inClass (top 17) 5
theorem sc_Table__take_back : FnScope ["self", "number", "other", "hand", "letter", "event"] ["self", "number"] (defScope s_Table__take_back) := ⟨rfl, rfl, rfl, by decide +kernel, rfl, by decide +kernel, by decide +kernel⟩
noncomputable def S_Table__take_back : ST := (sSeq (sFor (iSeq (ed (e1 (fFld [1] 2) (eVar 0)))) (tTup (tCons (tN 2) (tCons (tN 3) (tCons (tN 4) tNil)))) (sIf (eTB (e2 fEq (eVar 2) (eVar 1))) (sPut (ed (e1 (fFld [1] 1) (eVar 0))) (eVar 3) (ed (e2 fAdd (ed (e2 fIx (ed (e1 (fFld [1] 1) (eVar 0))) (eVar 3))) (eTup (aCons (eVar 4) aNil))))) sPass) [2, 3, 4])
  (sAtt [1] 2 (eVar 0) (eAl (eComp (iSeq (ed (e1 (fFld [1] 2) (eVar 0)))) (tN 5) (eTB (e2 fNe (ed (e2 fIx (eVar 5) (eC (.int 0)))) (eVar 1))) (eVar 5) [5]))))
noncomputable def B_Table__take_back : BD := body 6 S_Table__take_back
theorem ok_Table__take_back {f_ : Addr} {fd_ : FuncData} (F0 : Fun K "_take_back" "Table._take_back" s_Table__take_back f_ fd_) (C_Table : ClF ca K 1 ["_alphabet", "_rows", "_events", "_count"]) :
    FnOk P w K mg base (L2.CX P w) 1 f_ fd_ ["self", "number"] (spB ca 2 B_Table__take_back) := by
  have N : (["self", "number", "other", "hand", "letter", "event"] : List Str).Nodup := sc_Table__take_back.nd
  refine def_ok F0 sc_Table__take_back fun cdv A outer s H E hr => ?_
  have hu65 : (cxOf (L2.CX P w) P w K mg base ["self", "number", "other", "hand", "letter", "event"] "Table._take_back" (defScope s_Table__take_back) f_ cdv A outer s H E).A.units + 65 < cLine := by have := hr.un; show (A.deeper _).units + 65 < cLine; omega
  have hu64 : (cxOf (L2.CX P w) P w K mg base ["self", "number", "other", "hand", "letter", "event"] "Table._take_back" (defScope s_Table__take_back) f_ cdv A outer s H E).A.units + 64 < cLine := by omega
  have hu1 : (cxOf (L2.CX P w) P w K mg base ["self", "number", "other", "hand", "letter", "event"] "Table._take_back" (defScope s_Table__take_back) f_ cdv A outer s H E).A.units + 1 < cLine := by omega
  have tk : Takes (cxOf (L2.CX P w) P w K mg base ["self", "number", "other", "hand", "letter", "event"] "Table._take_back" (defScope s_Table__take_back) f_ cdv A outer s H E) (fun cls d _ H' => E cls d H') := takes_of rfl rfl rfl rfl
  unfold S_Table__take_back
  exact (sss_cons (ss_for [2, 3, 4] (passes_of rfl) rfl (si_seq (SD.of (se_fld (sd_var (pv 0)) rfl (C_Table.at (i := 2) (by decide +kernel) rfl)))) (sg_tup rfl (sgs_cons (sg_name (pg_name (i := 2) N rfl (by first | exact Or.inl rfl | exact Or.inr rfl))) (sgs_cons (sg_name (pg_name (i := 3) N rfl (by first | exact Or.inl rfl | exact Or.inr rfl))) (sgs_cons (sg_name (pg_name (i := 4) N rfl (by first | exact Or.inl rfl | exact Or.inr rfl))) sgs_nil rfl) rfl) rfl) (len_cons (len_cons (len_cons len_nil))) rfl rfl) (sss_one (ss_if (sb_cmp (op_eqD hu64) lk_eq (sd_var (pv 2)) (sd_var (pv 1)) (nomark _)) (sss_one (ss_put hu1 (SD.of (se_fld (sd_var (pv 0)) rfl (C_Table.at (i := 1) (by decide +kernel) rfl))) (sd_var (pv 3)) (SD.of (se_op op_addA lk_add (SD.of (se_ix hu1 (SD.of (se_fld (sd_var (pv 0)) rfl (C_Table.at (i := 1) (by decide +kernel) rfl))) (sd_var (pv 3)) (fun _ _ => rfl))) (sd_tup (sa_cons (sd_var (pv 4)) sa_nil rfl)))) (fun _ => rfl) rfl rfl rfl)) sss_nil)) (fun _ => rfl))
    (sss_one (ss_att (sd_var (pv 0)) (sd_al (se_lc (own := [(("event" : Str), 5)]) rfl N (si_seq (SD.of (se_fld (sd_var (pv 0)) rfl (C_Table.at (i := 2) (by decide +kernel) rfl)))) (blkOk_by (by rfl)) (fun _ _ _ _ _ => by exact (sgw_name (pg_name (i := 5) N rfl (by first | exact Or.inl rfl | exact Or.inr rfl)) (by decide))) (fun _ _ _ _ _ => by exact (sts_one (sb_cmp (op_neD hu64) lk_ne (SD.of (se_ix hu1 (sd_var (pv 5)) sd_int (fun _ _ => rfl))) (sd_var (pv 1)) (nomark _)))) (fun _ _ _ _ _ => by exact (sd_var (pv 5))) (fun _ => rfl))) (C_Table.at (i := 2) (by decide +kernel) rfl) rfl)))
abbrev s_Table_events : Stmt := inClass (top 17) 11
theorem sc_Table_events : FnScope ["self"] ["self"] (defScope s_Table_events) := ⟨rfl, rfl, rfl, by decide +kernel, rfl, by decide +kernel, by decide +kernel⟩
noncomputable def S_Table_events : ST := (sRet (eA fList (aCons (ed (e1 (fFld [1] 2) (eVar 0))) aNil)))
noncomputable def B_Table_events : BD := body 1 S_Table_events
theorem ok_Table_events {f_ : Addr} {fd_ : FuncData} (F0 : Fun K "events" "Table.events" s_Table_events f_ fd_) (bt : Bt mg) (C_Table : ClF ca K 1 ["_alphabet", "_rows", "_events", "_count"]) :
    FnOk P w K mg base (L2.CX P w) 1 f_ fd_ ["self"] (spB ca 1 B_Table_events) := by
  have N : (["self"] : List Str).Nodup := sc_Table_events.nd
  refine def_ok F0 sc_Table_events fun cdv A outer s H E hr => ?_
  have hu65 : (cxOf (L2.CX P w) P w K mg base ["self"] "Table.events" (defScope s_Table_events) f_ cdv A outer s H E).A.units + 65 < cLine := by have := hr.un; show (A.deeper _).units + 65 < cLine; omega
  have hu64 : (cxOf (L2.CX P w) P w K mg base ["self"] "Table.events" (defScope s_Table_events) f_ cdv A outer s H E).A.units + 64 < cLine := by omega
  have hu1 : (cxOf (L2.CX P w) P w K mg base ["self"] "Table.events" (defScope s_Table_events) f_ cdv A outer s H E).A.units + 1 < cLine := by omega
  have tk : Takes (cxOf (L2.CX P w) P w K mg base ["self"] "Table.events" (defScope s_Table_events) f_ cdv A outer s H E) (fun cls d _ H' => E cls d H') := takes_of rfl rfl rfl rfl
  unfold S_Table_events
  exact (sss_one (ss_ret (se_b (pe_callTy call_list_of rfl bt.list b_list (sa_cons (SD.of (se_fld (sd_var (pv 0)) rfl (C_Table.at (i := 2) (by decide +kernel) rfl))) sa_nil rfl)) lk_list)))
abbrev s_place_word : Stmt := top 19
theorem sc_place_word : FnScope ["alphabet", "word", "place", "letter"] ["alphabet", "word", "place"] (defScope s_place_word) := ⟨rfl, rfl, rfl, by decide +kernel, rfl, by decide +kernel, by decide +kernel⟩
noncomputable def S_place_word : ST := (sRet (eA fTuple (aCons (ed (eComp (iSeq (eVar 1)) (tN 3) (eTB (e2 fIn (eVar 2) (ed (e2 fIx (ed (e1 (fFld [0] 1) (eVar 0))) (eVar 3))))) (eVar 3) [3])) aNil)))
noncomputable def B_place_word : BD := body 4 S_place_word
theorem ok_place_word {f_ : Addr} {fd_ : FuncData} (F0 : Fun K "place_word" "place_word" s_place_word f_ fd_) (bt : Bt mg) (C_Alphabet : ClF ca K 0 ["places", "letters"]) :
    FnOk P w K mg base (L2.CX P w) 1 f_ fd_ ["alphabet", "word", "place"] (spB ca 3 B_place_word) := by
  have N : (["alphabet", "word", "place", "letter"] : List Str).Nodup := sc_place_word.nd
  refine def_ok F0 sc_place_word fun cdv A outer s H E hr => ?_
  have hu65 : (cxOf (L2.CX P w) P w K mg base ["alphabet", "word", "place", "letter"] "place_word" (defScope s_place_word) f_ cdv A outer s H E).A.units + 65 < cLine := by have := hr.un; show (A.deeper _).units + 65 < cLine; omega
  have hu64 : (cxOf (L2.CX P w) P w K mg base ["alphabet", "word", "place", "letter"] "place_word" (defScope s_place_word) f_ cdv A outer s H E).A.units + 64 < cLine := by omega
  have hu1 : (cxOf (L2.CX P w) P w K mg base ["alphabet", "word", "place", "letter"] "place_word" (defScope s_place_word) f_ cdv A outer s H E).A.units + 1 < cLine := by omega
  have tk : Takes (cxOf (L2.CX P w) P w K mg base ["alphabet", "word", "place", "letter"] "place_word" (defScope s_place_word) f_ cdv A outer s H E) (fun cls d _ H' => E cls d H') := takes_of rfl rfl rfl rfl
  unfold S_place_word
  exact (sss_one (ss_ret (se_b (pe_callTy call_tuple_of rfl bt.tuple b_tuple (sa_cons (SD.of (se_lc (own := [(("letter" : Str), 3)]) rfl N (si_seq (sd_var (pv 1))) (blkOk_by (by rfl)) (fun _ _ _ _ _ => by exact (sgw_name (pg_name (i := 3) N rfl (by first | exact Or.inl rfl | exact Or.inr rfl)) (by decide))) (fun _ _ _ _ _ => by exact (sts_one (sb_cmp (op_in hu65) lk_in (sd_var (pv 2)) (SD.of (se_ix hu1 (SD.of (se_fld (sd_var (pv 0)) rfl (C_Alphabet.at (i := 1) (by decide +kernel) rfl))) (sd_var (pv 3)) (fun _ _ => rfl))) rfl))) (fun _ _ _ _ _ => by exact (sd_var (pv 3))) (fun _ => rfl))) sa_nil rfl)) lk_tuple)))
abbrev s__law_draws : Stmt := top 22
theorem sc__law_draws : FnScope ["script", "count", "cells", "found", "mixed", "k", "j", "cell", "again"] ["script", "count"] (defScope s__law_draws) := ⟨rfl, rfl, rfl, by decide +kernel, rfl, by decide +kernel, by decide +kernel⟩
noncomputable def S__law_draws : ST := (sSeq (sSet 2 (eAl (eA fListS (aCons (eVar 0) aNil))))
  (sSeq (sIf (eTB (e2 fEq (ed (eA fLen (aCons (eVar 2) aNil))) (eC (.int 0)))) (sSet 2 (eAl (eLst (aCons (eC (.int 7)) aNil)))) sPass)
  (sSeq (sSet 3 (eAl (eLst aNil)))
  (sSeq (sSet 4 (eC (.int 12345)))
  (sSeq (sFor (iR1 (aCons (eVar 1) aNil)) (tN 5) (sSeq (sSet 6 (ed (e2 fMod (eVar 5) (ed (eA fLen (aCons (eVar 2) aNil))))))
  (sSeq (sSet 7 (ed (e2 fIx (eVar 2) (eVar 6))))
  (sSeq (sSet 4 (ed (e2 fMod (ed (eA fInt (aCons (ed (e2 fAdd (ed (e2 fAdd (ed (e2 fAdd (ed (e2 fMulA (eVar 4) (eC (.int 48271)))) (ed (e2 fMulA (ed (e2 fMod (ed (eA fInt (aCons (eVar 7) aNil))) (eC (.int 1000003)))) (eC (.int 69621)))))) (ed (e2 fMulA (eVar 5) (eC (.int 7919)))))) (eC (.int 11)))) aNil))) (eC (.int 2147483647)))))
  (sSeq (sSet 8 (ed (e2 fMod (ed (eA fInt (aCons (ed (e2 fAdd (ed (e2 fAdd (ed (e2 fMulA (eVar 4) (eVar 4))) (ed (e2 fMulA (eC (.int 31)) (eVar 4))))) (eVar 5))) aNil))) (eC (.int 1000003)))))
  (sIf (eTB (e2 fGe (eVar 7) (ed (e2 fPow (eC (.int 10)) (eC (.int 18)))))) (sSeq (sX (ed (eM "list" fAppend (eVar 3) (aCons (ed (e2 fMod (ed (eA fInt (aCons (eVar 7) aNil))) (eC (.int 1000)))) aNil))))
  (sPut (eVar 2) (eVar 6) (ed (e2 fDiv (eVar 7) (eC (.int 1000)))))) (sX (ed (eM "list" fAppend (eVar 3) (aCons (ed (e2 fMod (ed (eA fInt (aCons (eVar 8) aNil))) (eC (.int 1000)))) aNil))))))))) [5, 6, 7, 8])
  (sSeq (sX (ed (eM "list" fReverse (eVar 3) aNil)))
  (sRet (ev (eVar 3)))))))))
noncomputable def B__law_draws : BD := body 9 S__law_draws
theorem ok__law_draws {f_ : Addr} {fd_ : FuncData} (F0 : Fun K "_law_draws" "_law_draws" s__law_draws f_ fd_) (bt : Bt mg) (hro : ∀ a ns H, ca.ro a ns → SqL K H a (ns.map V.int)) :
    FnOk P w K mg base (L2.CX P w) 1 f_ fd_ ["script", "count"] (spB ca 2 B__law_draws) := by
  have N : (["script", "count", "cells", "found", "mixed", "k", "j", "cell", "again"] : List Str).Nodup := sc__law_draws.nd
  refine def_ok F0 sc__law_draws fun cdv A outer s H E hr => ?_
  have hu65 : (cxOf (L2.CX P w) P w K mg base ["script", "count", "cells", "found", "mixed", "k", "j", "cell", "again"] "_law_draws" (defScope s__law_draws) f_ cdv A outer s H E).A.units + 65 < cLine := by have := hr.un; show (A.deeper _).units + 65 < cLine; omega
  have hu64 : (cxOf (L2.CX P w) P w K mg base ["script", "count", "cells", "found", "mixed", "k", "j", "cell", "again"] "_law_draws" (defScope s__law_draws) f_ cdv A outer s H E).A.units + 64 < cLine := by omega
  have hu1 : (cxOf (L2.CX P w) P w K mg base ["script", "count", "cells", "found", "mixed", "k", "j", "cell", "again"] "_law_draws" (defScope s__law_draws) f_ cdv A outer s H E).A.units + 1 < cLine := by omega
  have tk : Takes (cxOf (L2.CX P w) P w K mg base ["script", "count", "cells", "found", "mixed", "k", "j", "cell", "again"] "_law_draws" (defScope s__law_draws) f_ cdv A outer s H E) (fun cls d _ H' => E cls d H') := takes_of rfl rfl rfl rfl
  unfold S__law_draws
  exact (sss_cons (ss_set N rfl (by first | exact Or.inl rfl | exact Or.inr rfl) (sd_al (se_b (pe_callTy call_list_of rfl bt.list b_list (sa_cons (sd_var (pv 0)) sa_nil rfl)) (lk_listS hro))) rfl (by first | exact Or.inl rfl | exact Or.inr rfl))
    (sss_cons (ss_if (sb_cmp (op_eqD hu64) lk_eq (SD.of (se_b (pe_callB cr_len rfl bt.len b_len (sa_cons (sd_var (pv 2)) sa_nil rfl)) lk_len)) sd_int (nomark _)) (sss_one (ss_set N rfl (by first | exact Or.inl rfl | exact Or.inr rfl) (sd_al (se_lst (sa_cons sd_int sa_nil rfl))) rfl (by first | exact Or.inl rfl | exact Or.inr rfl))) sss_nil)
    (sss_cons (ss_set N rfl (by first | exact Or.inl rfl | exact Or.inr rfl) (sd_al (se_lst sa_nil)) rfl (by first | exact Or.inl rfl | exact Or.inr rfl))
    (sss_cons (ss_set N rfl (by first | exact Or.inl rfl | exact Or.inr rfl) sd_int rfl (by first | exact Or.inl rfl | exact Or.inr rfl))
    (sss_cons (ss_for [5, 6, 7, 8] (passes_of rfl) rfl (si_r1 (pi_range1 rfl bt.range (sa_cons (sd_var (pv 1)) sa_nil rfl))) (sg_name (pg_name (i := 5) N rfl (by first | exact Or.inl rfl | exact Or.inr rfl))) (sss_cons (ss_set N rfl (by first | exact Or.inl rfl | exact Or.inr rfl) (SD.of (se_op op_mod lk_mod (sd_var (pv 5)) (SD.of (se_b (pe_callB cr_len rfl bt.len b_len (sa_cons (sd_var (pv 2)) sa_nil rfl)) lk_len)))) rfl (by first | exact Or.inl rfl | exact Or.inr rfl))
    (sss_cons (ss_set N rfl (by first | exact Or.inl rfl | exact Or.inr rfl) (SD.of (se_ix hu1 (sd_var (pv 2)) (sd_var (pv 6)) (fun _ _ => rfl))) rfl (by first | exact Or.inl rfl | exact Or.inr rfl))
    (sss_cons (ss_set N rfl (by first | exact Or.inl rfl | exact Or.inr rfl) (SD.of (se_op op_mod lk_mod (SD.of (se_b (pe_callTy call_int1 rfl bt.int b_int (sa_cons (SD.of (se_op op_addA lk_add (SD.of (se_op op_addA lk_add (SD.of (se_op op_addA lk_add (SD.of (se_op op_mulA lk_mulA (sd_var (pv 4)) sd_int)) (SD.of (se_op op_mulA lk_mulA (SD.of (se_op op_mod lk_mod (SD.of (se_b (pe_callTy call_int1 rfl bt.int b_int (sa_cons (sd_var (pv 7)) sa_nil rfl)) lk_int)) sd_int)) sd_int)))) (SD.of (se_op op_mulA lk_mulA (sd_var (pv 5)) sd_int)))) sd_int)) sa_nil rfl)) lk_int)) sd_int)) rfl (by first | exact Or.inl rfl | exact Or.inr rfl))
    (sss_cons (ss_set N rfl (by first | exact Or.inl rfl | exact Or.inr rfl) (SD.of (se_op op_mod lk_mod (SD.of (se_b (pe_callTy call_int1 rfl bt.int b_int (sa_cons (SD.of (se_op op_addA lk_add (SD.of (se_op op_addA lk_add (SD.of (se_op op_mulA lk_mulA (sd_var (pv 4)) (sd_var (pv 4)))) (SD.of (se_op op_mulA lk_mulA sd_int (sd_var (pv 4)))))) (sd_var (pv 5)))) sa_nil rfl)) lk_int)) sd_int)) rfl (by first | exact Or.inl rfl | exact Or.inr rfl))
    (sss_one (ss_if (sb_cmp op_ge lk_ge (sd_var (pv 7)) (SD.of (se_op op_pow lk_pow sd_int sd_int)) (nomark _)) (sss_cons (ss_expr (SD.of (se_m (pe_bm PySem.F.plainAttrs_list PySem.F.slot_list_append PySem.F.type_list_append mt_append (sd_var (pv 3)) (sa_cons (SD.of (se_op op_mod lk_mod (SD.of (se_b (pe_callTy call_int1 rfl bt.int b_int (sa_cons (sd_var (pv 7)) sa_nil rfl)) lk_int)) sd_int)) sa_nil rfl)) lk_append)) rfl)
    (sss_one (ss_put hu1 (sd_var (pv 2)) (sd_var (pv 6)) (SD.of (se_op op_fdiv lk_div (sd_var (pv 7)) sd_int)) (fun _ => rfl) rfl rfl rfl))) (sss_one (ss_expr (SD.of (se_m (pe_bm PySem.F.plainAttrs_list PySem.F.slot_list_append PySem.F.type_list_append mt_append (sd_var (pv 3)) (sa_cons (SD.of (se_op op_mod lk_mod (SD.of (se_b (pe_callTy call_int1 rfl bt.int b_int (sa_cons (sd_var (pv 8)) sa_nil rfl)) lk_int)) sd_int)) sa_nil rfl)) lk_append)) rfl)))))))) (fun _ => rfl))
    (sss_cons (ss_expr (SD.of (se_m0 (pe_bm0 PySem.F.plainAttrs_list PySem.F.slot_list_reverse PySem.F.type_list_reverse mt_reverse (sd_var (pv 3))) lk_reverse)) rfl)
    (sss_one (ss_ret (SE.of (sd_var (pv 3)))))))))))
abbrev s__law_take : Stmt := top 23
theorem sc__law_take : FnScope ["draws", "limit"] ["draws", "limit"] (defScope s__law_take) := ⟨rfl, rfl, rfl, by decide +kernel, rfl, by decide +kernel, by decide +kernel⟩
noncomputable def S__law_take : ST := (sSeq (sIf (eTB (e2 fEq (ed (eA fLen (aCons (eVar 0) aNil))) (eC (.int 0)))) (sRet (ev (eC (.int 0)))) sPass)
  (sRet (e2 fMod (ed (eA fInt (aCons (ed (eM "list" fPop (eVar 0) aNil)) aNil))) (eVar 1))))
noncomputable def B__law_take : BD := body 2 S__law_take
theorem ok__law_take {f_ : Addr} {fd_ : FuncData} (F0 : Fun K "_law_take" "_law_take" s__law_take f_ fd_) (bt : Bt mg) :
    FnOk P w K mg base (L2.CX P w) 1 f_ fd_ ["draws", "limit"] (spB ca 2 B__law_take) := by
  have N : (["draws", "limit"] : List Str).Nodup := sc__law_take.nd
  refine def_ok F0 sc__law_take fun cdv A outer s H E hr => ?_
  have hu65 : (cxOf (L2.CX P w) P w K mg base ["draws", "limit"] "_law_take" (defScope s__law_take) f_ cdv A outer s H E).A.units + 65 < cLine := by have := hr.un; show (A.deeper _).units + 65 < cLine; omega
  have hu64 : (cxOf (L2.CX P w) P w K mg base ["draws", "limit"] "_law_take" (defScope s__law_take) f_ cdv A outer s H E).A.units + 64 < cLine := by omega
  have hu1 : (cxOf (L2.CX P w) P w K mg base ["draws", "limit"] "_law_take" (defScope s__law_take) f_ cdv A outer s H E).A.units + 1 < cLine := by omega
  have tk : Takes (cxOf (L2.CX P w) P w K mg base ["draws", "limit"] "_law_take" (defScope s__law_take) f_ cdv A outer s H E) (fun cls d _ H' => E cls d H') := takes_of rfl rfl rfl rfl
  unfold S__law_take
  exact (sss_cons (ss_if (sb_cmp (op_eqD hu64) lk_eq (SD.of (se_b (pe_callB cr_len rfl bt.len b_len (sa_cons (sd_var (pv 0)) sa_nil rfl)) lk_len)) sd_int (nomark _)) (sss_one (ss_ret (SE.of sd_int))) sss_nil)
    (sss_one (ss_ret (se_op op_mod lk_mod (SD.of (se_b (pe_callTy call_int1 rfl bt.int b_int (sa_cons (SD.of (se_m0 (pe_bm0 PySem.F.plainAttrs_list PySem.F.slot_list_pop PySem.F.type_list_pop mt_pop (sd_var (pv 0))) lk_pop)) sa_nil rfl)) lk_int)) (sd_var (pv 1))))))
abbrev s__law_meet : Stmt := top 26
theorem sc__law_meet : FnScope ["letters", "a", "b", "place"] ["letters", "a", "b"] (defScope s__law_meet) := ⟨rfl, rfl, rfl, by decide +kernel, rfl, by decide +kernel, by decide +kernel⟩
noncomputable def S__law_meet : ST := (sRet (e2 fGt (ed (eA fLen (aCons (ed (eComp (iSeq (ed (e2 fIx (eVar 0) (eVar 1)))) (tN 3) (eTB (e2 fIn (eVar 3) (ed (e2 fIx (eVar 0) (eVar 2))))) (eC (.int 1)) [3])) aNil))) (eC (.int 0))))
noncomputable def B__law_meet : BD := body 4 S__law_meet
theorem ok__law_meet {f_ : Addr} {fd_ : FuncData} (F0 : Fun K "_law_meet" "_law_meet" s__law_meet f_ fd_) (bt : Bt mg) :
    FnOk P w K mg base (L2.CX P w) 1 f_ fd_ ["letters", "a", "b"] (spB ca 3 B__law_meet) := by
  have N : (["letters", "a", "b", "place"] : List Str).Nodup := sc__law_meet.nd
  refine def_ok F0 sc__law_meet fun cdv A outer s H E hr => ?_
  have hu65 : (cxOf (L2.CX P w) P w K mg base ["letters", "a", "b", "place"] "_law_meet" (defScope s__law_meet) f_ cdv A outer s H E).A.units + 65 < cLine := by have := hr.un; show (A.deeper _).units + 65 < cLine; omega
  have hu64 : (cxOf (L2.CX P w) P w K mg base ["letters", "a", "b", "place"] "_law_meet" (defScope s__law_meet) f_ cdv A outer s H E).A.units + 64 < cLine := by omega
  have hu1 : (cxOf (L2.CX P w) P w K mg base ["letters", "a", "b", "place"] "_law_meet" (defScope s__law_meet) f_ cdv A outer s H E).A.units + 1 < cLine := by omega
  have tk : Takes (cxOf (L2.CX P w) P w K mg base ["letters", "a", "b", "place"] "_law_meet" (defScope s__law_meet) f_ cdv A outer s H E) (fun cls d _ H' => E cls d H') := takes_of rfl rfl rfl rfl
  unfold S__law_meet
  exact (sss_one (ss_ret (se_cmp op_gt lk_gt (SD.of (se_b (pe_callB cr_len rfl bt.len b_len (sa_cons (SD.of (se_lc (own := [(("place" : Str), 3)]) rfl N (si_seq (SD.of (se_ix hu1 (sd_var (pv 0)) (sd_var (pv 1)) (fun _ _ => rfl)))) (blkOk_by (by rfl)) (fun _ _ _ _ _ => by exact (sgw_name (pg_name (i := 3) N rfl (by first | exact Or.inl rfl | exact Or.inr rfl)) (by decide))) (fun _ _ _ _ _ => by exact (sts_one (sb_cmp (op_in hu65) lk_in (sd_var (pv 3)) (SD.of (se_ix hu1 (sd_var (pv 0)) (sd_var (pv 2)) (fun _ _ => rfl))) rfl))) (fun _ _ _ _ _ => by exact sd_int) (fun _ => rfl))) sa_nil rfl)) lk_len)) sd_int (nomark _))))
abbrev s__law_take_back : Stmt := top 28
theorem sc__law_take_back : FnScope ["model", "numbers", "number", "other", "hand", "letter", "rows", "row"] ["model", "numbers"] (defScope s__law_take_back) := ⟨rfl, rfl, rfl, by decide +kernel, rfl, by decide +kernel, by decide +kernel⟩
noncomputable def S__law_take_back : ST := (sFor (iSeq (ed (Z.e1 fRevL (eVar 1)))) (tN 2) (sSeq (sFor (iSeq (ed (e2 fIx (eVar 0) (eC (.str "events"))))) (tTup (tCons (tN 3) (tCons (tN 4) (tCons (tN 5) tNil)))) (sIf (eTB (e2 fEq (eVar 3) (eVar 2))) (sSeq (sSet 6 (eAl (e2 fIx (eVar 0) (eC (.str "rows")))))
  (sPut (eVar 6) (eVar 4) (ed (e2 fAdd (ed (e2 fIx (eVar 6) (eVar 4))) (eTup (aCons (eVar 5) aNil)))))) sPass) [3, 4, 5, 6])
  (sPut (eVar 0) (eC (.str "events")) (ed (eComp (iSeq (ed (e2 fIx (eVar 0) (eC (.str "events"))))) (tN 7) (eTB (e2 fNe (ed (e2 fIx (eVar 7) (eC (.int 0)))) (eVar 2))) (eVar 7) [7])))) [2, 3, 4, 5, 6])
noncomputable def B__law_take_back : BD := body 8 S__law_take_back
theorem ok__law_take_back {f_ : Addr} {fd_ : FuncData} (F0 : Fun K "_law_take_back" "_law_take_back" s__law_take_back f_ fd_) :
    FnOk P w K mg base (L2.CX P w) 1 f_ fd_ ["model", "numbers"] (spB ca 2 B__law_take_back) := by
  have N : (["model", "numbers", "number", "other", "hand", "letter", "rows", "row"] : List Str).Nodup := sc__law_take_back.nd
  refine def_ok F0 sc__law_take_back fun cdv A outer s H E hr => ?_
  have hu65 : (cxOf (L2.CX P w) P w K mg base ["model", "numbers", "number", "other", "hand", "letter", "rows", "row"] "_law_take_back" (defScope s__law_take_back) f_ cdv A outer s H E).A.units + 65 < cLine := by have := hr.un; show (A.deeper _).units + 65 < cLine; omega
  have hu64 : (cxOf (L2.CX P w) P w K mg base ["model", "numbers", "number", "other", "hand", "letter", "rows", "row"] "_law_take_back" (defScope s__law_take_back) f_ cdv A outer s H E).A.units + 64 < cLine := by omega
  have hu1 : (cxOf (L2.CX P w) P w K mg base ["model", "numbers", "number", "other", "hand", "letter", "rows", "row"] "_law_take_back" (defScope s__law_take_back) f_ cdv A outer s H E).A.units + 1 < cLine := by omega
  have tk : Takes (cxOf (L2.CX P w) P w K mg base ["model", "numbers", "number", "other", "hand", "letter", "rows", "row"] "_law_take_back" (defScope s__law_take_back) f_ cdv A outer s H E) (fun cls d _ H' => E cls d H') := takes_of rfl rfl rfl rfl
  unfold S__law_take_back
  exact (sss_one (ss_for [2, 3, 4, 5, 6] (passes_of rfl) rfl (si_seq (SD.of (se_rev (sd_var (pv 1))))) (sg_name (pg_name (i := 2) N rfl (by first | exact Or.inl rfl | exact Or.inr rfl))) (sss_cons (ss_for [3, 4, 5, 6] (passes_of rfl) rfl (si_seq (SD.of (se_ix hu1 (sd_var (pv 0)) sd_str (fun _ _ => rfl)))) (sg_tup rfl (sgs_cons (sg_name (pg_name (i := 3) N rfl (by first | exact Or.inl rfl | exact Or.inr rfl))) (sgs_cons (sg_name (pg_name (i := 4) N rfl (by first | exact Or.inl rfl | exact Or.inr rfl))) (sgs_cons (sg_name (pg_name (i := 5) N rfl (by first | exact Or.inl rfl | exact Or.inr rfl))) sgs_nil rfl) rfl) rfl) (len_cons (len_cons (len_cons len_nil))) rfl rfl) (sss_one (ss_if (sb_cmp (op_eqD hu64) lk_eq (sd_var (pv 3)) (sd_var (pv 2)) (nomark _)) (sss_cons (ss_set N rfl (by first | exact Or.inl rfl | exact Or.inr rfl) (sd_al (se_ix hu1 (sd_var (pv 0)) sd_str (fun _ _ => rfl))) rfl (by first | exact Or.inl rfl | exact Or.inr rfl))
    (sss_one (ss_put hu1 (sd_var (pv 6)) (sd_var (pv 4)) (SD.of (se_op op_addA lk_add (SD.of (se_ix hu1 (sd_var (pv 6)) (sd_var (pv 4)) (fun _ _ => rfl))) (sd_tup (sa_cons (sd_var (pv 5)) sa_nil rfl)))) (fun _ => rfl) rfl rfl rfl))) sss_nil)) (fun _ => rfl))
    (sss_one (ss_put hu1 (sd_var (pv 0)) sd_str (SD.of (se_lc (own := [(("row" : Str), 7)]) rfl N (si_seq (SD.of (se_ix hu1 (sd_var (pv 0)) sd_str (fun _ _ => rfl)))) (blkOk_by (by rfl)) (fun _ _ _ _ _ => by exact (sgw_name (pg_name (i := 7) N rfl (by first | exact Or.inl rfl | exact Or.inr rfl)) (by decide))) (fun _ _ _ _ _ => by exact (sts_one (sb_cmp (op_neD hu64) lk_ne (SD.of (se_ix hu1 (sd_var (pv 7)) sd_int (fun _ _ => rfl))) (sd_var (pv 2)) (nomark _)))) (fun _ _ _ _ _ => by exact (sd_var (pv 7))) (fun _ => rfl))) (fun _ => rfl) rfl rfl rfl))) (fun _ => rfl)))
abbrev s__law_add : Stmt := top 30
theorem sc__law_add : FnScope ["model", "hand", "letter", "number"] ["model", "hand", "letter"] (defScope s__law_add) := ⟨rfl, rfl, rfl, by decide +kernel, rfl, by decide +kernel, by decide +kernel⟩
noncomputable def S__law_add : ST := (sSeq (sSet 3 (ed (e2 fIx (eVar 0) (eC (.str "count")))))
  (sSeq (sPut (eVar 0) (eC (.str "count")) (ed (e2 fAdd (eVar 3) (eC (.int 1)))))
  (sSeq (sPut (eVar 0) (eC (.str "events")) (ed (e2 fAdd (ed (e2 fIx (eVar 0) (eC (.str "events")))) (ed (eLst (aCons (eTup (aCons (eVar 3) (aCons (eVar 1) (aCons (eVar 2) aNil)))) aNil))))))
  (sRet (ev (eVar 3))))))
noncomputable def B__law_add : BD := body 4 S__law_add
theorem ok__law_add {f_ : Addr} {fd_ : FuncData} (F0 : Fun K "_law_add" "_law_add" s__law_add f_ fd_) :
    FnOk P w K mg base (L2.CX P w) 1 f_ fd_ ["model", "hand", "letter"] (spB ca 3 B__law_add) := by
  have N : (["model", "hand", "letter", "number"] : List Str).Nodup := sc__law_add.nd
  refine def_ok F0 sc__law_add fun cdv A outer s H E hr => ?_
  have hu65 : (cxOf (L2.CX P w) P w K mg base ["model", "hand", "letter", "number"] "_law_add" (defScope s__law_add) f_ cdv A outer s H E).A.units + 65 < cLine := by have := hr.un; show (A.deeper _).units + 65 < cLine; omega
  have hu64 : (cxOf (L2.CX P w) P w K mg base ["model", "hand", "letter", "number"] "_law_add" (defScope s__law_add) f_ cdv A outer s H E).A.units + 64 < cLine := by omega
  have hu1 : (cxOf (L2.CX P w) P w K mg base ["model", "hand", "letter", "number"] "_law_add" (defScope s__law_add) f_ cdv A outer s H E).A.units + 1 < cLine := by omega
  have tk : Takes (cxOf (L2.CX P w) P w K mg base ["model", "hand", "letter", "number"] "_law_add" (defScope s__law_add) f_ cdv A outer s H E) (fun cls d _ H' => E cls d H') := takes_of rfl rfl rfl rfl
  unfold S__law_add
  exact (sss_cons (ss_set N rfl (by first | exact Or.inl rfl | exact Or.inr rfl) (SD.of (se_ix hu1 (sd_var (pv 0)) sd_str (fun _ _ => rfl))) rfl (by first | exact Or.inl rfl | exact Or.inr rfl))
    (sss_cons (ss_put hu1 (sd_var (pv 0)) sd_str (SD.of (se_op op_addA lk_add (sd_var (pv 3)) sd_int)) (fun _ => rfl) rfl rfl rfl)
    (sss_cons (ss_put hu1 (sd_var (pv 0)) sd_str (SD.of (se_op op_addA lk_add (SD.of (se_ix hu1 (sd_var (pv 0)) sd_str (fun _ _ => rfl))) (SD.of (se_lst (sa_cons (sd_tup (sa_cons (sd_var (pv 3)) (sa_cons (sd_var (pv 1)) (sa_cons (sd_var (pv 2)) sa_nil rfl) rfl) rfl)) sa_nil rfl))))) (fun _ => rfl) rfl rfl rfl)
    (sss_one (ss_ret (SE.of (sd_var (pv 3))))))))
abbrev s_Alphabet___init__ : Stmt := inClass (top 9) 0
theorem sc_Alphabet___init__ : FnScope ["self", "places", "letters", "valid", "letter"] ["self", "places", "letters"] (defScope s_Alphabet___init__) := ⟨rfl, rfl, rfl, by decide +kernel, rfl, by decide +kernel, by decide +kernel⟩
noncomputable def S_Alphabet___init__ : ST := (sSeq (sSet 3 (vAnd (ed (eCh fLe fLe (eC (.int 1)) (eVar 1) (eC (.int 4)))) (ed (eCh fLe fLe (eC (.int 1)) (ed (eA fLen (aCons (eVar 2) aNil))) (eC (.int 6))))))
  (sSeq (sFor (iSeq (eVar 2)) (tN 4) (sSet 3 (vAnd (eVar 3) (ed (eCall 2 B_fits (aCons (eVar 4) (aCons (eVar 1) aNil)))))) [])
  (sSeq (sIf (bNot (eT (eVar 3))) sNever sPass)
  (sSeq (sAtt [0] 0 (eVar 0) (eVar 1))
  (sAtt [0] 1 (eVar 0) (ed (eA fTuple (aCons (ed (eComp (iSeq (eVar 2)) (tN 4) bYes (ed (eA fTuple (aCons (eVar 4) aNil))) [4])) aNil))))))))
noncomputable def B_Alphabet___init__ : BD := body 5 S_Alphabet___init__
theorem ok_Alphabet___init__ {f_ : Addr} {fd_ : FuncData} {f_fits : Addr} {fd_fits : FuncData} (F0 : Fun K "__init__" "Alphabet.__init__" s_Alphabet___init__ f_ fd_) (bt : Bt mg) (cs : Cs mg) (C_Alphabet : ClF ca K 0 ["places", "letters"]) (D_fits : Dg K mg "fits" "fits" s_fits ["letter", "places"] f_fits fd_fits) (G_fits : FnOk P w K mg base (L2.CX P w) 1 f_fits fd_fits ["letter", "places"] (spB ca 2 B_fits)) :
    FnOk P w K mg base (L2.CX P w) 2 f_ fd_ ["self", "places", "letters"] (spB ca 3 B_Alphabet___init__) := by
  have N : (["self", "places", "letters", "valid", "letter"] : List Str).Nodup := sc_Alphabet___init__.nd
  obtain ⟨_, c_MOST_LETTERS⟩ := cs.MOST_LETTERS
  obtain ⟨_, c_MOST_PLACES⟩ := cs.MOST_PLACES
  refine def_ok F0 sc_Alphabet___init__ fun cdv A outer s H E hr => ?_
  have hu65 : (cxOf (L2.CX P w) P w K mg base ["self", "places", "letters", "valid", "letter"] "Alphabet.__init__" (defScope s_Alphabet___init__) f_ cdv A outer s H E).A.units + 65 < cLine := by have := hr.un; show (A.deeper _).units + 65 < cLine; omega
  have hu64 : (cxOf (L2.CX P w) P w K mg base ["self", "places", "letters", "valid", "letter"] "Alphabet.__init__" (defScope s_Alphabet___init__) f_ cdv A outer s H E).A.units + 64 < cLine := by omega
  have hu1 : (cxOf (L2.CX P w) P w K mg base ["self", "places", "letters", "valid", "letter"] "Alphabet.__init__" (defScope s_Alphabet___init__) f_ cdv A outer s H E).A.units + 1 < cLine := by omega
  have tk : Takes (cxOf (L2.CX P w) P w K mg base ["self", "places", "letters", "valid", "letter"] "Alphabet.__init__" (defScope s_Alphabet___init__) f_ cdv A outer s H E) (fun cls d _ H' => E cls d H') := takes_of rfl rfl rfl rfl
  unfold S_Alphabet___init__
  exact (sss_cons (ss_set N rfl (by first | exact Or.inl rfl | exact Or.inr rfl) (sd_and (SD.of (se_ch op_le op_le lk_le lk_le sd_int (sd_var (pv 1)) (sd_glob (v := .int 4) (pe_glob rfl c_MOST_PLACES ⟨_, rfl⟩) (fun _ _ => .int _)) (by with_unfolding_all rfl))) (sd_one (SD.of (se_ch op_le op_le lk_le lk_le sd_int (SD.of (se_b (pe_callB cr_len rfl bt.len b_len (sa_cons (sd_var (pv 2)) sa_nil rfl)) lk_len)) (sd_glob (v := .int 6) (pe_glob rfl c_MOST_LETTERS ⟨_, rfl⟩) (fun _ _ => .int _)) (by with_unfolding_all rfl))))) rfl (by first | exact Or.inl rfl | exact Or.inr rfl))
    (sss_cons (ss_for [] (passes_of rfl) rfl (si_seq (sd_var (pv 2))) (sg_name (pg_name (i := 4) N rfl (by first | exact Or.inl rfl | exact Or.inr rfl))) (sss_one (ss_set N rfl (by first | exact Or.inl rfl | exact Or.inr rfl) (sd_and (sd_var (pv 3)) (sd_one (SD.of (se_callN rfl G_fits (hr.mono (by decide)) (by rfl) D_fits.m D_fits.F.kp D_fits.b tk (sa_cons (sd_var (pv 4)) (sa_cons (sd_var (pv 1)) sa_nil rfl) rfl) (by decide) rfl rfl)))) rfl (by first | exact Or.inl rfl | exact Or.inr rfl))) (fun _ => rfl))
    (sss_cons (ss_if (sb_not (sb_t (sd_var (pv 3)) (fun _ => rfl))) (sss_one ss_never) sss_nil)
    (sss_cons (ss_att (sd_var (pv 0)) (sd_var (pv 1)) (C_Alphabet.at (i := 0) (by decide +kernel) rfl) rfl)
    (sss_one (ss_att (sd_var (pv 0)) (SD.of (se_b (pe_callTy call_tuple_of rfl bt.tuple b_tuple (sa_cons (SD.of (se_lc (own := [(("letter" : Str), 4)]) rfl N (si_seq (sd_var (pv 2))) (blkOk_by (by rfl)) (fun _ _ _ _ _ => by exact (sgw_name (pg_name (i := 4) N rfl (by first | exact Or.inl rfl | exact Or.inr rfl)) (by decide))) (fun _ _ _ _ _ => by exact sts_nil) (fun _ _ _ _ _ => by exact (SD.of (se_b (pe_callTy call_tuple_of rfl bt.tuple b_tuple (sa_cons (sd_var (pv 4)) sa_nil rfl)) lk_tuple))) (fun _ => rfl))) sa_nil rfl)) lk_tuple)) (C_Alphabet.at (i := 1) (by decide +kernel) rfl) rfl))))))
abbrev s_masks : Stmt := top 11
theorem sc_masks : FnScope ["alphabet", "found", "first", "mask", "second"] ["alphabet"] (defScope s_masks) := ⟨rfl, rfl, rfl, by decide +kernel, rfl, by decide +kernel, by decide +kernel⟩
noncomputable def S_masks : ST := (sSeq (sSet 1 (eAl (eLst aNil)))
  (sSeq (sFor (iR1 (aCons (ed (eA fLen (aCons (ed (e1 (fFld [0] 1) (eVar 0))) aNil))) aNil)) (tN 2) (sSeq (sSet 3 (eC (.int 0)))
  (sSeq (sFor (iR1 (aCons (ed (eA fLen (aCons (ed (e1 (fFld [0] 1) (eVar 0))) aNil))) aNil)) (tN 4) (sIf (bNot (eT (ed (eCall 3 B_independent (aCons (eVar 0) (aCons (eVar 2) (aCons (eVar 4) aNil))))))) (sSet 3 (ed (e2 fOr (eVar 3) (ed (e2 fShl (eC (.int 1)) (eVar 4)))))) sPass) [4])
  (sX (ed (eM "list" fAppend (eVar 1) (aCons (eVar 3) aNil)))))) [2, 3, 4])
  (sRet (ev (eVar 1)))))
noncomputable def B_masks : BD := body 5 S_masks
theorem ok_masks {f_ : Addr} {fd_ : FuncData} {f_independent : Addr} {fd_independent : FuncData} (F0 : Fun K "masks" "masks" s_masks f_ fd_) (bt : Bt mg) (C_Alphabet : ClF ca K 0 ["places", "letters"]) (D_independent : Dg K mg "independent" "independent" s_independent ["alphabet", "first", "second"] f_independent fd_independent) (G_independent : FnOk P w K mg base (L2.CX P w) 1 f_independent fd_independent ["alphabet", "first", "second"] (spB ca 3 B_independent)) :
    FnOk P w K mg base (L2.CX P w) 2 f_ fd_ ["alphabet"] (spB ca 1 B_masks) := by
  have N : (["alphabet", "found", "first", "mask", "second"] : List Str).Nodup := sc_masks.nd
  refine def_ok F0 sc_masks fun cdv A outer s H E hr => ?_
  have hu65 : (cxOf (L2.CX P w) P w K mg base ["alphabet", "found", "first", "mask", "second"] "masks" (defScope s_masks) f_ cdv A outer s H E).A.units + 65 < cLine := by have := hr.un; show (A.deeper _).units + 65 < cLine; omega
  have hu64 : (cxOf (L2.CX P w) P w K mg base ["alphabet", "found", "first", "mask", "second"] "masks" (defScope s_masks) f_ cdv A outer s H E).A.units + 64 < cLine := by omega
  have hu1 : (cxOf (L2.CX P w) P w K mg base ["alphabet", "found", "first", "mask", "second"] "masks" (defScope s_masks) f_ cdv A outer s H E).A.units + 1 < cLine := by omega
  have tk : Takes (cxOf (L2.CX P w) P w K mg base ["alphabet", "found", "first", "mask", "second"] "masks" (defScope s_masks) f_ cdv A outer s H E) (fun cls d _ H' => E cls d H') := takes_of rfl rfl rfl rfl
  unfold S_masks
  exact (sss_cons (ss_set N rfl (by first | exact Or.inl rfl | exact Or.inr rfl) (sd_al (se_lst sa_nil)) rfl (by first | exact Or.inl rfl | exact Or.inr rfl))
    (sss_cons (ss_for [2, 3, 4] (passes_of rfl) rfl (si_r1 (pi_range1 rfl bt.range (sa_cons (SD.of (se_b (pe_callB cr_len rfl bt.len b_len (sa_cons (SD.of (se_fld (sd_var (pv 0)) rfl (C_Alphabet.at (i := 1) (by decide +kernel) rfl))) sa_nil rfl)) lk_len)) sa_nil rfl))) (sg_name (pg_name (i := 2) N rfl (by first | exact Or.inl rfl | exact Or.inr rfl))) (sss_cons (ss_set N rfl (by first | exact Or.inl rfl | exact Or.inr rfl) sd_int rfl (by first | exact Or.inl rfl | exact Or.inr rfl))
    (sss_cons (ss_for [4] (passes_of rfl) rfl (si_r1 (pi_range1 rfl bt.range (sa_cons (SD.of (se_b (pe_callB cr_len rfl bt.len b_len (sa_cons (SD.of (se_fld (sd_var (pv 0)) rfl (C_Alphabet.at (i := 1) (by decide +kernel) rfl))) sa_nil rfl)) lk_len)) sa_nil rfl))) (sg_name (pg_name (i := 4) N rfl (by first | exact Or.inl rfl | exact Or.inr rfl))) (sss_one (ss_if (sb_not (sb_t (SD.of (se_callN rfl G_independent (hr.mono (by decide)) (by rfl) D_independent.m D_independent.F.kp D_independent.b tk (sa_cons (sd_var (pv 0)) (sa_cons (sd_var (pv 2)) (sa_cons (sd_var (pv 4)) sa_nil rfl) rfl) rfl) (by decide) rfl rfl)) (fun _ => rfl))) (sss_one (ss_set N rfl (by first | exact Or.inl rfl | exact Or.inr rfl) (SD.of (se_op op_or lk_or (sd_var (pv 3)) (SD.of (se_op op_shl lk_shl sd_int (sd_var (pv 4)))))) rfl (by first | exact Or.inl rfl | exact Or.inr rfl))) sss_nil)) (fun _ => rfl))
    (sss_one (ss_expr (SD.of (se_m (pe_bm PySem.F.plainAttrs_list PySem.F.slot_list_append PySem.F.type_list_append mt_append (sd_var (pv 1)) (sa_cons (sd_var (pv 3)) sa_nil rfl)) lk_append)) rfl)))) (fun _ => rfl))
    (sss_one (ss_ret (SE.of (sd_var (pv 1)))))))
abbrev s_Table__resting : Stmt := inClass (top 17) 3
theorem sc_Table__resting : FnScope ["self", "number", "found", "letters", "other", "_", "letter", "one"] ["self", "number"] (defScope s_Table__resting) := ⟨rfl, rfl, rfl, by decide +kernel, rfl, by decide +kernel, by decide +kernel⟩
noncomputable def S_Table__resting : ST := (sSeq (sSet 2 (eAl (eLst aNil)))
  (sSeq (sSet 3 (eAl (eLst aNil)))
  (sSeq (sFor (iSeq (ed (e1 (fFld [1] 2) (eVar 0)))) (tTup (tCons (tN 4) (tCons (tN 5) (tCons (tN 6) tNil)))) (sIf (bOr (eTB (e2 fEq (eVar 4) (eVar 1))) (eT (ed (eA fAny (aCons (ed (eComp (iSeq (eVar 3)) (tN 7) bYes (ed (e1 fNotB (ed (eCall 3 B_independent (aCons (ed (e1 (fFld [1] 0) (eVar 0))) (aCons (eVar 7) (aCons (eVar 6) aNil))))))) [7])) aNil))))) (sSeq (sX (ed (eM "list" fAppend (eVar 2) (aCons (eVar 4) aNil))))
  (sX (ed (eM "list" fAppend (eVar 3) (aCons (eVar 6) aNil))))) sPass) [4, 5, 6])
  (sRet (ev (eVar 2))))))
noncomputable def B_Table__resting : BD := body 8 S_Table__resting
theorem ok_Table__resting {f_ : Addr} {fd_ : FuncData} {f_independent : Addr} {fd_independent : FuncData} (F0 : Fun K "_resting" "Table._resting" s_Table__resting f_ fd_) (bt : Bt mg) (C_Table : ClF ca K 1 ["_alphabet", "_rows", "_events", "_count"]) (D_independent : Dg K mg "independent" "independent" s_independent ["alphabet", "first", "second"] f_independent fd_independent) (G_independent : FnOk P w K mg base (L2.CX P w) 1 f_independent fd_independent ["alphabet", "first", "second"] (spB ca 3 B_independent)) :
    FnOk P w K mg base (L2.CX P w) 2 f_ fd_ ["self", "number"] (spB ca 2 B_Table__resting) := by
  have N : (["self", "number", "found", "letters", "other", "_", "letter", "one"] : List Str).Nodup := sc_Table__resting.nd
  refine def_ok F0 sc_Table__resting fun cdv A outer s H E hr => ?_
  have hu65 : (cxOf (L2.CX P w) P w K mg base ["self", "number", "found", "letters", "other", "_", "letter", "one"] "Table._resting" (defScope s_Table__resting) f_ cdv A outer s H E).A.units + 65 < cLine := by have := hr.un; show (A.deeper _).units + 65 < cLine; omega
  have hu64 : (cxOf (L2.CX P w) P w K mg base ["self", "number", "found", "letters", "other", "_", "letter", "one"] "Table._resting" (defScope s_Table__resting) f_ cdv A outer s H E).A.units + 64 < cLine := by omega
  have hu1 : (cxOf (L2.CX P w) P w K mg base ["self", "number", "found", "letters", "other", "_", "letter", "one"] "Table._resting" (defScope s_Table__resting) f_ cdv A outer s H E).A.units + 1 < cLine := by omega
  have tk : Takes (cxOf (L2.CX P w) P w K mg base ["self", "number", "found", "letters", "other", "_", "letter", "one"] "Table._resting" (defScope s_Table__resting) f_ cdv A outer s H E) (fun cls d _ H' => E cls d H') := takes_of rfl rfl rfl rfl
  unfold S_Table__resting
  exact (sss_cons (ss_set N rfl (by first | exact Or.inl rfl | exact Or.inr rfl) (sd_al (se_lst sa_nil)) rfl (by first | exact Or.inl rfl | exact Or.inr rfl))
    (sss_cons (ss_set N rfl (by first | exact Or.inl rfl | exact Or.inr rfl) (sd_al (se_lst sa_nil)) rfl (by first | exact Or.inl rfl | exact Or.inr rfl))
    (sss_cons (ss_for [4, 5, 6] (passes_of rfl) rfl (si_seq (SD.of (se_fld (sd_var (pv 0)) rfl (C_Table.at (i := 2) (by decide +kernel) rfl)))) (sg_tup rfl (sgs_cons (sg_name (pg_name (i := 4) N rfl (by first | exact Or.inl rfl | exact Or.inr rfl))) (sgs_cons (sg_name (pg_name (i := 5) N rfl (by first | exact Or.inl rfl | exact Or.inr rfl))) (sgs_cons (sg_name (pg_name (i := 6) N rfl (by first | exact Or.inl rfl | exact Or.inr rfl))) sgs_nil rfl) rfl) rfl) (len_cons (len_cons (len_cons len_nil))) rfl rfl) (sss_one (ss_if (sb_w (sw_or (sb_cmp (op_eqD hu64) lk_eq (sd_var (pv 4)) (sd_var (pv 1)) (nomark _)) (sw_or1 (sb_t (SD.of (se_b (pe_callB (cr_any rfl) rfl bt.any b_any (sa_cons (SD.of (se_lc (own := [(("one" : Str), 7)]) rfl N (si_seq (sd_var (pv 3))) (blkOk_by (by rfl)) (fun _ _ _ _ _ => by exact (sgw_name (pg_name (i := 7) N rfl (by first | exact Or.inl rfl | exact Or.inr rfl)) (by decide))) (fun _ _ _ _ _ => by exact sts_nil) (fun _ _ _ _ _ => by exact (SD.of (se_not (SD.of (se_callN rfl G_independent (hr.mono (by decide)) (by rfl) D_independent.m D_independent.F.kp D_independent.b tk0 (sa_cons (SD.of (se_fld (sd_var (pv 0)) rfl (C_Table.at (i := 0) (by decide +kernel) rfl))) (sa_cons (sd_var (pv 7)) (sa_cons (sd_var (pv 6)) sa_nil rfl) rfl) rfl) (by decide) rfl rfl))))) (fun _ => rfl))) sa_nil rfl)) lk_any)) (fun _ => rfl))))) (sss_cons (ss_expr (SD.of (se_m (pe_bm PySem.F.plainAttrs_list PySem.F.slot_list_append PySem.F.type_list_append mt_append (sd_var (pv 2)) (sa_cons (sd_var (pv 4)) sa_nil rfl)) lk_append)) rfl)
    (sss_one (ss_expr (SD.of (se_m (pe_bm PySem.F.plainAttrs_list PySem.F.slot_list_append PySem.F.type_list_append mt_append (sd_var (pv 3)) (sa_cons (sd_var (pv 6)) sa_nil rfl)) lk_append)) rfl))) sss_nil)) (fun _ => rfl))
    (sss_one (ss_ret (SE.of (sd_var (pv 2))))))))
abbrev s_Table_do : Stmt := inClass (top 17) 6
theorem sc_Table_do : FnScope ["self", "hand", "letter"] ["self", "hand", "letter"] (defScope s_Table_do) := ⟨rfl, rfl, rfl, by decide +kernel, rfl, by decide +kernel, by decide +kernel⟩
noncomputable def S_Table_do : ST := (sSeq (sX (ed (eMeth clN 1 2 B_Table__check (eVar 0) (aCons (eVar 1) aNil))))
  (sSeq (sPut (ed (e1 (fFld [1] 1) (eVar 0))) (eVar 1) (eTup aNil))
  (sRet (eMeth clN 1 3 B_Table__add (eVar 0) (aCons (eVar 1) (aCons (eVar 2) aNil))))))
noncomputable def B_Table_do : BD := body 3 S_Table_do
theorem ok_Table_do {f_ : Addr} {fd_ : FuncData} {f_Table__check : Addr} {fd_Table__check : FuncData} {f_Table__add : Addr} {fd_Table__add : FuncData} (F0 : Fun K "do" "Table.do" s_Table_do f_ fd_) (C_Table : ClF ca K 1 ["_alphabet", "_rows", "_events", "_count"]) (D_Table__check : MtF K ca 1 "_check" s_Table__check ["self", "hand"] f_Table__check fd_Table__check) (G_Table__check : FnOk P w K mg base (L2.CX P w) 1 f_Table__check fd_Table__check ["self", "hand"] (spB ca 2 B_Table__check)) (D_Table__add : MtF K ca 1 "_add" s_Table__add ["self", "hand", "letter"] f_Table__add fd_Table__add) (G_Table__add : FnOk P w K mg base (L2.CX P w) 1 f_Table__add fd_Table__add ["self", "hand", "letter"] (spB ca 3 B_Table__add)) :
    FnOk P w K mg base (L2.CX P w) 2 f_ fd_ ["self", "hand", "letter"] (spB ca 3 B_Table_do) := by
  have N : (["self", "hand", "letter"] : List Str).Nodup := sc_Table_do.nd
  refine def_ok F0 sc_Table_do fun cdv A outer s H E hr => ?_
  have hu65 : (cxOf (L2.CX P w) P w K mg base ["self", "hand", "letter"] "Table.do" (defScope s_Table_do) f_ cdv A outer s H E).A.units + 65 < cLine := by have := hr.un; show (A.deeper _).units + 65 < cLine; omega
  have hu64 : (cxOf (L2.CX P w) P w K mg base ["self", "hand", "letter"] "Table.do" (defScope s_Table_do) f_ cdv A outer s H E).A.units + 64 < cLine := by omega
  have hu1 : (cxOf (L2.CX P w) P w K mg base ["self", "hand", "letter"] "Table.do" (defScope s_Table_do) f_ cdv A outer s H E).A.units + 1 < cLine := by omega
  have tk : Takes (cxOf (L2.CX P w) P w K mg base ["self", "hand", "letter"] "Table.do" (defScope s_Table_do) f_ cdv A outer s H E) (fun cls d _ H' => E cls d H') := takes_of rfl rfl rfl rfl
  unfold S_Table_do
  exact (sss_cons (ss_expr (SD.of (se_meth clN_ok (cn := 1) rfl C_Table.cl D_Table__check G_Table__check (hr.mono (by decide)) tk (sd_var (pv 0)) (sa_cons (sd_var (pv 1)) sa_nil rfl) rfl rfl rfl)) rfl)
    (sss_cons (ss_put hu1 (SD.of (se_fld (sd_var (pv 0)) rfl (C_Table.at (i := 1) (by decide +kernel) rfl))) (sd_var (pv 1)) (sd_tup sa_nil) (fun _ => rfl) rfl rfl rfl)
    (sss_one (ss_ret (se_meth clN_ok (cn := 1) rfl C_Table.cl D_Table__add G_Table__add (hr.mono (by decide)) tk (sd_var (pv 0)) (sa_cons (sd_var (pv 1)) (sa_cons (sd_var (pv 2)) sa_nil rfl) rfl) rfl rfl rfl)))))
abbrev s_Table_do_again : Stmt := inClass (top 17) 9
theorem sc_Table_do_again : FnScope ["self", "hand", "letter"] ["self", "hand"] (defScope s_Table_do_again) := ⟨rfl, rfl, rfl, by decide +kernel, rfl, by decide +kernel, by decide +kernel⟩
noncomputable def S_Table_do_again : ST := (sSeq (sX (ed (eMeth clN 1 2 B_Table__check (eVar 0) (aCons (eVar 1) aNil))))
  (sSeq (sIf (bNot (eT (ed (e2 fIx (ed (e1 (fFld [1] 1) (eVar 0))) (eVar 1))))) (sRaise 2) sPass)
  (sSeq (sSet 2 (ed (e2 fIx (ed (e2 fIx (ed (e1 (fFld [1] 1) (eVar 0))) (eVar 1))) (ed (e1 fNeg (eC (.int 1)))))))
  (sSeq (sPut (ed (e1 (fFld [1] 1) (eVar 0))) (eVar 1) (ed (eSl (ed (e2 fIx (ed (e1 (fFld [1] 1) (eVar 0))) (eVar 1))) oNone (oSome (ed (e1 fNeg (eC (.int 1))))))))
  (sRet (eMeth clN 1 3 B_Table__add (eVar 0) (aCons (eVar 1) (aCons (eVar 2) aNil))))))))
noncomputable def B_Table_do_again : BD := body 3 S_Table_do_again
theorem ok_Table_do_again {f_ : Addr} {fd_ : FuncData} {f_Table__check : Addr} {fd_Table__check : FuncData} {f_Table__add : Addr} {fd_Table__add : FuncData} (F0 : Fun K "do_again" "Table.do_again" s_Table_do_again f_ fd_) (C_Table : ClF ca K 1 ["_alphabet", "_rows", "_events", "_count"]) (Ex_NotReady : ExF K mg ca "NotReady" 2) (D_Table__check : MtF K ca 1 "_check" s_Table__check ["self", "hand"] f_Table__check fd_Table__check) (G_Table__check : FnOk P w K mg base (L2.CX P w) 1 f_Table__check fd_Table__check ["self", "hand"] (spB ca 2 B_Table__check)) (D_Table__add : MtF K ca 1 "_add" s_Table__add ["self", "hand", "letter"] f_Table__add fd_Table__add) (G_Table__add : FnOk P w K mg base (L2.CX P w) 1 f_Table__add fd_Table__add ["self", "hand", "letter"] (spB ca 3 B_Table__add)) :
    FnOk P w K mg base (L2.CX P w) 2 f_ fd_ ["self", "hand"] (spB ca 2 B_Table_do_again) := by
  have N : (["self", "hand", "letter"] : List Str).Nodup := sc_Table_do_again.nd
  refine def_ok F0 sc_Table_do_again fun cdv A outer s H E hr => ?_
  have hu65 : (cxOf (L2.CX P w) P w K mg base ["self", "hand", "letter"] "Table.do_again" (defScope s_Table_do_again) f_ cdv A outer s H E).A.units + 65 < cLine := by have := hr.un; show (A.deeper _).units + 65 < cLine; omega
  have hu64 : (cxOf (L2.CX P w) P w K mg base ["self", "hand", "letter"] "Table.do_again" (defScope s_Table_do_again) f_ cdv A outer s H E).A.units + 64 < cLine := by omega
  have hu1 : (cxOf (L2.CX P w) P w K mg base ["self", "hand", "letter"] "Table.do_again" (defScope s_Table_do_again) f_ cdv A outer s H E).A.units + 1 < cLine := by omega
  have tk : Takes (cxOf (L2.CX P w) P w K mg base ["self", "hand", "letter"] "Table.do_again" (defScope s_Table_do_again) f_ cdv A outer s H E) (fun cls d _ H' => E cls d H') := takes_of rfl rfl rfl rfl
  unfold S_Table_do_again
  exact (sss_cons (ss_expr (SD.of (se_meth clN_ok (cn := 1) rfl C_Table.cl D_Table__check G_Table__check (hr.mono (by decide)) tk (sd_var (pv 0)) (sa_cons (sd_var (pv 1)) sa_nil rfl) rfl rfl rfl)) rfl)
    (sss_cons (ss_if (sb_not (sb_t (SD.of (se_ix hu1 (SD.of (se_fld (sd_var (pv 0)) rfl (C_Table.at (i := 1) (by decide +kernel) rfl))) (sd_var (pv 1)) (fun _ _ => rfl))) (fun _ => rfl))) (sss_one (ss_raise (c := 2) rfl tk (pmk_own PySem.F.excBase_ValueError Ex_NotReady.ex Ex_NotReady.g Ex_NotReady.kp (raises_own Ex_NotReady.b Ex_NotReady.t) rfl))) sss_nil)
    (sss_cons (ss_set N rfl (by first | exact Or.inl rfl | exact Or.inr rfl) (SD.of (se_ix hu1 (SD.of (se_ix hu1 (SD.of (se_fld (sd_var (pv 0)) rfl (C_Table.at (i := 1) (by decide +kernel) rfl))) (sd_var (pv 1)) (fun _ _ => rfl))) (SD.of (se_un un_neg lk_neg sd_int)) (fun _ _ => rfl))) rfl (by first | exact Or.inl rfl | exact Or.inr rfl))
    (sss_cons (ss_put hu1 (SD.of (se_fld (sd_var (pv 0)) rfl (C_Table.at (i := 1) (by decide +kernel) rfl))) (sd_var (pv 1)) (SD.of (se_sl (SD.of (se_ix hu1 (SD.of (se_fld (sd_var (pv 0)) rfl (C_Table.at (i := 1) (by decide +kernel) rfl))) (sd_var (pv 1)) (fun _ _ => rfl))) so_none (so_some (SD.of (se_un un_neg lk_neg sd_int))))) (fun _ => rfl) rfl rfl rfl)
    (sss_one (ss_ret (se_meth clN_ok (cn := 1) rfl C_Table.cl D_Table__add G_Table__add (hr.mono (by decide)) tk (sd_var (pv 0)) (sa_cons (sd_var (pv 1)) (sa_cons (sd_var (pv 2)) sa_nil rfl) rfl) rfl rfl rfl)))))))
abbrev s_Table_row : Stmt := inClass (top 17) 10
theorem sc_Table_row : FnScope ["self", "hand"] ["self", "hand"] (defScope s_Table_row) := ⟨rfl, rfl, rfl, by decide +kernel, rfl, by decide +kernel, by decide +kernel⟩
noncomputable def S_Table_row : ST := (sSeq (sX (ed (eMeth clN 1 2 B_Table__check (eVar 0) (aCons (eVar 1) aNil))))
  (sRet (e2 fIx (ed (e1 (fFld [1] 1) (eVar 0))) (eVar 1))))
noncomputable def B_Table_row : BD := body 2 S_Table_row
theorem ok_Table_row {f_ : Addr} {fd_ : FuncData} {f_Table__check : Addr} {fd_Table__check : FuncData} (F0 : Fun K "row" "Table.row" s_Table_row f_ fd_) (C_Table : ClF ca K 1 ["_alphabet", "_rows", "_events", "_count"]) (D_Table__check : MtF K ca 1 "_check" s_Table__check ["self", "hand"] f_Table__check fd_Table__check) (G_Table__check : FnOk P w K mg base (L2.CX P w) 1 f_Table__check fd_Table__check ["self", "hand"] (spB ca 2 B_Table__check)) :
    FnOk P w K mg base (L2.CX P w) 2 f_ fd_ ["self", "hand"] (spB ca 2 B_Table_row) := by
  have N : (["self", "hand"] : List Str).Nodup := sc_Table_row.nd
  refine def_ok F0 sc_Table_row fun cdv A outer s H E hr => ?_
  have hu65 : (cxOf (L2.CX P w) P w K mg base ["self", "hand"] "Table.row" (defScope s_Table_row) f_ cdv A outer s H E).A.units + 65 < cLine := by have := hr.un; show (A.deeper _).units + 65 < cLine; omega
  have hu64 : (cxOf (L2.CX P w) P w K mg base ["self", "hand"] "Table.row" (defScope s_Table_row) f_ cdv A outer s H E).A.units + 64 < cLine := by omega
  have hu1 : (cxOf (L2.CX P w) P w K mg base ["self", "hand"] "Table.row" (defScope s_Table_row) f_ cdv A outer s H E).A.units + 1 < cLine := by omega
  have tk : Takes (cxOf (L2.CX P w) P w K mg base ["self", "hand"] "Table.row" (defScope s_Table_row) f_ cdv A outer s H E) (fun cls d _ H' => E cls d H') := takes_of rfl rfl rfl rfl
  unfold S_Table_row
  exact (sss_cons (ss_expr (SD.of (se_meth clN_ok (cn := 1) rfl C_Table.cl D_Table__check G_Table__check (hr.mono (by decide)) tk (sd_var (pv 0)) (sa_cons (sd_var (pv 1)) sa_nil rfl) rfl rfl rfl)) rfl)
    (sss_one (ss_ret (se_ix hu1 (SD.of (se_fld (sd_var (pv 0)) rfl (C_Table.at (i := 1) (by decide +kernel) rfl))) (sd_var (pv 1)) (fun _ _ => rfl)))))
abbrev s_equivalent : Stmt := top 20
theorem sc_equivalent : FnScope ["alphabet", "first", "second", "place"] ["alphabet", "first", "second"] (defScope s_equivalent) := ⟨rfl, rfl, rfl, by decide +kernel, rfl, by decide +kernel, by decide +kernel⟩
noncomputable def S_equivalent : ST := (sSeq (sFor (iR1 (aCons (ed (e1 (fFld [0] 0) (eVar 0))) aNil)) (tN 3) (sIf (eTB (e2 fNe (ed (eCall 3 B_place_word (aCons (eVar 0) (aCons (eVar 1) (aCons (eVar 3) aNil))))) (ed (eCall 3 B_place_word (aCons (eVar 0) (aCons (eVar 2) (aCons (eVar 3) aNil))))))) (sRet (ev (eC (.bl false)))) sPass) [3])
  (sRet (ev (eC (.bl true)))))
noncomputable def B_equivalent : BD := body 4 S_equivalent
theorem ok_equivalent {f_ : Addr} {fd_ : FuncData} {f_place_word : Addr} {fd_place_word : FuncData} (F0 : Fun K "equivalent" "equivalent" s_equivalent f_ fd_) (bt : Bt mg) (C_Alphabet : ClF ca K 0 ["places", "letters"]) (D_place_word : Dg K mg "place_word" "place_word" s_place_word ["alphabet", "word", "place"] f_place_word fd_place_word) (G_place_word : FnOk P w K mg base (L2.CX P w) 1 f_place_word fd_place_word ["alphabet", "word", "place"] (spB ca 3 B_place_word)) :
    FnOk P w K mg base (L2.CX P w) 2 f_ fd_ ["alphabet", "first", "second"] (spB ca 3 B_equivalent) := by
  have N : (["alphabet", "first", "second", "place"] : List Str).Nodup := sc_equivalent.nd
  refine def_ok F0 sc_equivalent fun cdv A outer s H E hr => ?_
  have hu65 : (cxOf (L2.CX P w) P w K mg base ["alphabet", "first", "second", "place"] "equivalent" (defScope s_equivalent) f_ cdv A outer s H E).A.units + 65 < cLine := by have := hr.un; show (A.deeper _).units + 65 < cLine; omega
  have hu64 : (cxOf (L2.CX P w) P w K mg base ["alphabet", "first", "second", "place"] "equivalent" (defScope s_equivalent) f_ cdv A outer s H E).A.units + 64 < cLine := by omega
  have hu1 : (cxOf (L2.CX P w) P w K mg base ["alphabet", "first", "second", "place"] "equivalent" (defScope s_equivalent) f_ cdv A outer s H E).A.units + 1 < cLine := by omega
  have tk : Takes (cxOf (L2.CX P w) P w K mg base ["alphabet", "first", "second", "place"] "equivalent" (defScope s_equivalent) f_ cdv A outer s H E) (fun cls d _ H' => E cls d H') := takes_of rfl rfl rfl rfl
  unfold S_equivalent
  exact (sss_cons (ss_for [3] (passes_of rfl) rfl (si_r1 (pi_range1 rfl bt.range (sa_cons (SD.of (se_fld (sd_var (pv 0)) rfl (C_Alphabet.at (i := 0) (by decide +kernel) rfl))) sa_nil rfl))) (sg_name (pg_name (i := 3) N rfl (by first | exact Or.inl rfl | exact Or.inr rfl))) (sss_one (ss_if (sb_cmp (op_neD hu64) lk_ne (SD.of (se_callN rfl G_place_word (hr.mono (by decide)) (by rfl) D_place_word.m D_place_word.F.kp D_place_word.b tk (sa_cons (sd_var (pv 0)) (sa_cons (sd_var (pv 1)) (sa_cons (sd_var (pv 3)) sa_nil rfl) rfl) rfl) (by decide) rfl rfl)) (SD.of (se_callN rfl G_place_word (hr.mono (by decide)) (by rfl) D_place_word.m D_place_word.F.kp D_place_word.b tk (sa_cons (sd_var (pv 0)) (sa_cons (sd_var (pv 2)) (sa_cons (sd_var (pv 3)) sa_nil rfl) rfl) rfl) (by decide) rfl rfl)) (nomark _)) (sss_one (ss_ret (SE.of sd_bl))) sss_nil)) (fun _ => rfl))
    (sss_one (ss_ret (SE.of sd_bl))))
abbrev s__law_alphabet : Stmt := top 25
theorem sc__law_alphabet : FnScope ["draws", "most_places", "most_letters", "places", "letters", "k", "chosen", "extra"] ["draws", "most_places", "most_letters"] (defScope s__law_alphabet) := ⟨rfl, rfl, rfl, by decide +kernel, rfl, by decide +kernel, by decide +kernel⟩
noncomputable def S__law_alphabet : ST := (sSeq (sSet 3 (ed (e2 fAdd (eC (.int 1)) (ed (eCall 2 B__law_take (aCons (eVar 0) (aCons (eVar 1) aNil)))))))
  (sSeq (sSet 4 (eAl (eLst aNil)))
  (sSeq (sFor (iR1 (aCons (ed (e2 fAdd (eC (.int 1)) (ed (eCall 2 B__law_take (aCons (eVar 0) (aCons (eVar 2) aNil)))))) aNil)) (tN 5) (sSeq (sSet 6 (eAl (eDisp (pCons (ed (eCall 2 B__law_take (aCons (eVar 0) (aCons (eVar 3) aNil)))) (eC (.bl true)) pNil))))
  (sSeq (sFor (iR1 (aCons (ed (eCall 2 B__law_take (aCons (eVar 0) (aCons (eC (.int 3)) aNil)))) aNil)) (tN 7) (sPut (eVar 6) (ed (eCall 2 B__law_take (aCons (eVar 0) (aCons (eVar 3) aNil)))) (eC (.bl true))) [7])
  (sX (ed (eM "list" fAppend (eVar 4) (aCons (ed (eA fTuple (aCons (ed (eA fSorted (aCons (eVar 6) aNil))) aNil))) aNil)))))) [5, 6, 7])
  (sRet (ev (eTup (aCons (eVar 3) (aCons (eFz (eVar 4)) aNil))))))))
noncomputable def B__law_alphabet : BD := body 8 S__law_alphabet
theorem ok__law_alphabet {f_ : Addr} {fd_ : FuncData} {f__law_take : Addr} {fd__law_take : FuncData} (F0 : Fun K "_law_alphabet" "_law_alphabet" s__law_alphabet f_ fd_) (bt : Bt mg) (D__law_take : Dg K mg "_law_take" "_law_take" s__law_take ["draws", "limit"] f__law_take fd__law_take) (G__law_take : FnOk P w K mg base (L2.CX P w) 1 f__law_take fd__law_take ["draws", "limit"] (spB ca 2 B__law_take)) :
    FnOk P w K mg base (L2.CX P w) 2 f_ fd_ ["draws", "most_places", "most_letters"] (spB ca 3 B__law_alphabet) := by
  have N : (["draws", "most_places", "most_letters", "places", "letters", "k", "chosen", "extra"] : List Str).Nodup := sc__law_alphabet.nd
  refine def_ok F0 sc__law_alphabet fun cdv A outer s H E hr => ?_
  have hu65 : (cxOf (L2.CX P w) P w K mg base ["draws", "most_places", "most_letters", "places", "letters", "k", "chosen", "extra"] "_law_alphabet" (defScope s__law_alphabet) f_ cdv A outer s H E).A.units + 65 < cLine := by have := hr.un; show (A.deeper _).units + 65 < cLine; omega
  have hu64 : (cxOf (L2.CX P w) P w K mg base ["draws", "most_places", "most_letters", "places", "letters", "k", "chosen", "extra"] "_law_alphabet" (defScope s__law_alphabet) f_ cdv A outer s H E).A.units + 64 < cLine := by omega
  have hu1 : (cxOf (L2.CX P w) P w K mg base ["draws", "most_places", "most_letters", "places", "letters", "k", "chosen", "extra"] "_law_alphabet" (defScope s__law_alphabet) f_ cdv A outer s H E).A.units + 1 < cLine := by omega
  have tk : Takes (cxOf (L2.CX P w) P w K mg base ["draws", "most_places", "most_letters", "places", "letters", "k", "chosen", "extra"] "_law_alphabet" (defScope s__law_alphabet) f_ cdv A outer s H E) (fun cls d _ H' => E cls d H') := takes_of rfl rfl rfl rfl
  unfold S__law_alphabet
  exact (sss_cons (ss_set N rfl (by first | exact Or.inl rfl | exact Or.inr rfl) (SD.of (se_op op_addA lk_add sd_int (SD.of (se_callN rfl G__law_take (hr.mono (by decide)) (by rfl) D__law_take.m D__law_take.F.kp D__law_take.b tk (sa_cons (sd_var (pv 0)) (sa_cons (sd_var (pv 1)) sa_nil rfl) rfl) (by decide) rfl rfl)))) rfl (by first | exact Or.inl rfl | exact Or.inr rfl))
    (sss_cons (ss_set N rfl (by first | exact Or.inl rfl | exact Or.inr rfl) (sd_al (se_lst sa_nil)) rfl (by first | exact Or.inl rfl | exact Or.inr rfl))
    (sss_cons (ss_for [5, 6, 7] (passes_of rfl) rfl (si_r1 (pi_range1 rfl bt.range (sa_cons (SD.of (se_op op_addA lk_add sd_int (SD.of (se_callN rfl G__law_take (hr.mono (by decide)) (by rfl) D__law_take.m D__law_take.F.kp D__law_take.b tk (sa_cons (sd_var (pv 0)) (sa_cons (sd_var (pv 2)) sa_nil rfl) rfl) (by decide) rfl rfl)))) sa_nil rfl))) (sg_name (pg_name (i := 5) N rfl (by first | exact Or.inl rfl | exact Or.inr rfl))) (sss_cons (ss_set N rfl (by first | exact Or.inl rfl | exact Or.inr rfl) (sd_al (se_disp (pe_disp (pps_cons (SD.of (se_callN rfl G__law_take (hr.mono (by decide)) (by rfl) D__law_take.m D__law_take.F.kp D__law_take.b tk (sa_cons (sd_var (pv 0)) (sa_cons (sd_var (pv 3)) sa_nil rfl) rfl) (by decide) rfl rfl)) sd_bl pps_nil) (by rfl) (by rfl) (fun z => by cases z) (by decide)) (pp_cons pp_nil))) rfl (by first | exact Or.inl rfl | exact Or.inr rfl))
    (sss_cons (ss_for [7] (passes_of rfl) rfl (si_r1 (pi_range1 rfl bt.range (sa_cons (SD.of (se_callN rfl G__law_take (hr.mono (by decide)) (by rfl) D__law_take.m D__law_take.F.kp D__law_take.b tk (sa_cons (sd_var (pv 0)) (sa_cons sd_int sa_nil rfl) rfl) (by decide) rfl rfl)) sa_nil rfl))) (sg_name (pg_name (i := 7) N rfl (by first | exact Or.inl rfl | exact Or.inr rfl))) (sss_one (ss_put hu1 (sd_var (pv 6)) (SD.of (se_callN rfl G__law_take (hr.mono (by decide)) (by rfl) D__law_take.m D__law_take.F.kp D__law_take.b tk (sa_cons (sd_var (pv 0)) (sa_cons (sd_var (pv 3)) sa_nil rfl) rfl) (by decide) rfl rfl)) sd_bl (fun _ => rfl) rfl rfl rfl)) (fun _ => rfl))
    (sss_one (ss_expr (SD.of (se_m (pe_bm PySem.F.plainAttrs_list PySem.F.slot_list_append PySem.F.type_list_append mt_append (sd_var (pv 4)) (sa_cons (SD.of (se_b (pe_callTy call_tuple_of rfl bt.tuple b_tuple (sa_cons (SD.of (se_b (pe_callB (cr_sorted' rfl) rfl bt.sorted b_sorted (sa_cons (sd_var (pv 6)) sa_nil rfl)) lk_sorted)) sa_nil rfl)) lk_tuple)) sa_nil rfl)) lk_append)) rfl)))) (fun _ => rfl))
    (sss_one (ss_ret (SE.of (sd_tup (sa_cons (sd_var (pv 3)) (sa_cons (sd_fz (sd_var (pv 4))) sa_nil rfl) rfl))))))))
abbrev s__law_resting : Stmt := top 27
theorem sc__law_resting : FnScope ["letters", "events", "number", "found", "seen", "other", "hand", "letter", "one"] ["letters", "events", "number"] (defScope s__law_resting) := ⟨rfl, rfl, rfl, by decide +kernel, rfl, by decide +kernel, by decide +kernel⟩
noncomputable def S__law_resting : ST := (sSeq (sPar 3 4 (aCons (eAl (eLst aNil)) (aCons (eAl (eLst aNil)) aNil)))
  (sSeq (sFor (iSeq (eVar 1)) (tTup (tCons (tN 5) (tCons (tN 6) (tCons (tN 7) tNil)))) (sIf (bOr (eTB (e2 fEq (eVar 5) (eVar 2))) (eTB (e2 fGt (ed (eA fLen (aCons (ed (eComp (iSeq (eVar 4)) (tN 8) (eT (ed (eCall 3 B__law_meet (aCons (eVar 0) (aCons (eVar 8) (aCons (eVar 7) aNil)))))) (eC (.int 1)) [8])) aNil))) (eC (.int 0))))) (sSeq (sX (ed (eM "list" fAppend (eVar 3) (aCons (eVar 5) aNil))))
  (sX (ed (eM "list" fAppend (eVar 4) (aCons (eVar 7) aNil))))) sPass) [5, 6, 7])
  (sRet (ev (eVar 3)))))
noncomputable def B__law_resting : BD := body 9 S__law_resting
theorem ok__law_resting {f_ : Addr} {fd_ : FuncData} {f__law_meet : Addr} {fd__law_meet : FuncData} (F0 : Fun K "_law_resting" "_law_resting" s__law_resting f_ fd_) (bt : Bt mg) (D__law_meet : Dg K mg "_law_meet" "_law_meet" s__law_meet ["letters", "a", "b"] f__law_meet fd__law_meet) (G__law_meet : FnOk P w K mg base (L2.CX P w) 1 f__law_meet fd__law_meet ["letters", "a", "b"] (spB ca 3 B__law_meet)) :
    FnOk P w K mg base (L2.CX P w) 2 f_ fd_ ["letters", "events", "number"] (spB ca 3 B__law_resting) := by
  have N : (["letters", "events", "number", "found", "seen", "other", "hand", "letter", "one"] : List Str).Nodup := sc__law_resting.nd
  refine def_ok F0 sc__law_resting fun cdv A outer s H E hr => ?_
  have hu65 : (cxOf (L2.CX P w) P w K mg base ["letters", "events", "number", "found", "seen", "other", "hand", "letter", "one"] "_law_resting" (defScope s__law_resting) f_ cdv A outer s H E).A.units + 65 < cLine := by have := hr.un; show (A.deeper _).units + 65 < cLine; omega
  have hu64 : (cxOf (L2.CX P w) P w K mg base ["letters", "events", "number", "found", "seen", "other", "hand", "letter", "one"] "_law_resting" (defScope s__law_resting) f_ cdv A outer s H E).A.units + 64 < cLine := by omega
  have hu1 : (cxOf (L2.CX P w) P w K mg base ["letters", "events", "number", "found", "seen", "other", "hand", "letter", "one"] "_law_resting" (defScope s__law_resting) f_ cdv A outer s H E).A.units + 1 < cLine := by omega
  have tk : Takes (cxOf (L2.CX P w) P w K mg base ["letters", "events", "number", "found", "seen", "other", "hand", "letter", "one"] "_law_resting" (defScope s__law_resting) f_ cdv A outer s H E) (fun cls d _ H' => E cls d H') := takes_of rfl rfl rfl rfl
  unfold S__law_resting
  exact (sss_cons (ss_par (i := 3) (j := 4) rfl N rfl rfl (by decide) rfl rfl (sa_cons (sd_al (se_lst sa_nil)) (sa_cons (sd_al (se_lst sa_nil)) sa_nil rfl) rfl) (by rfl) rfl)
    (sss_cons (ss_for [5, 6, 7] (passes_of rfl) rfl (si_seq (sd_var (pv 1))) (sg_tup rfl (sgs_cons (sg_name (pg_name (i := 5) N rfl (by first | exact Or.inl rfl | exact Or.inr rfl))) (sgs_cons (sg_name (pg_name (i := 6) N rfl (by first | exact Or.inl rfl | exact Or.inr rfl))) (sgs_cons (sg_name (pg_name (i := 7) N rfl (by first | exact Or.inl rfl | exact Or.inr rfl))) sgs_nil rfl) rfl) rfl) (len_cons (len_cons (len_cons len_nil))) rfl rfl) (sss_one (ss_if (sb_w (sw_or (sb_cmp (op_eqD hu64) lk_eq (sd_var (pv 5)) (sd_var (pv 2)) (nomark _)) (sw_or1 (sb_cmp op_gt lk_gt (SD.of (se_b (pe_callB cr_len rfl bt.len b_len (sa_cons (SD.of (se_lc (own := [(("one" : Str), 8)]) rfl N (si_seq (sd_var (pv 4))) (blkOk_by (by rfl)) (fun _ _ _ _ _ => by exact (sgw_name (pg_name (i := 8) N rfl (by first | exact Or.inl rfl | exact Or.inr rfl)) (by decide))) (fun _ _ _ _ _ => by exact (sts_one (sb_t (SD.of (se_callN rfl G__law_meet (hr.mono (by decide)) (by rfl) D__law_meet.m D__law_meet.F.kp D__law_meet.b tk0 (sa_cons (sd_var (pv 0)) (sa_cons (sd_var (pv 8)) (sa_cons (sd_var (pv 7)) sa_nil rfl) rfl) rfl) (by decide) rfl rfl)) (fun _ => rfl)))) (fun _ _ _ _ _ => by exact sd_int) (fun _ => rfl))) sa_nil rfl)) lk_len)) sd_int (nomark _))))) (sss_cons (ss_expr (SD.of (se_m (pe_bm PySem.F.plainAttrs_list PySem.F.slot_list_append PySem.F.type_list_append mt_append (sd_var (pv 3)) (sa_cons (sd_var (pv 5)) sa_nil rfl)) lk_append)) rfl)
    (sss_one (ss_expr (SD.of (se_m (pe_bm PySem.F.plainAttrs_list PySem.F.slot_list_append PySem.F.type_list_append mt_append (sd_var (pv 4)) (sa_cons (sd_var (pv 7)) sa_nil rfl)) lk_append)) rfl))) sss_nil)) (fun _ => rfl))
    (sss_one (ss_ret (SE.of (sd_var (pv 3)))))))
abbrev s_first_letters : Stmt := top 13
theorem sc_first_letters : FnScope ["alphabet", "word", "found", "blocked", "dependent", "k"] ["alphabet", "word"] (defScope s_first_letters) := ⟨rfl, rfl, rfl, by decide +kernel, rfl, by decide +kernel, by decide +kernel⟩
noncomputable def S_first_letters : ST := (sSeq (sSet 2 (eAl (eLst aNil)))
  (sSeq (sSet 3 (eC (.int 0)))
  (sSeq (sSet 4 (ed (eCall 1 B_masks (aCons (eVar 0) aNil))))
  (sSeq (sFor (iR1 (aCons (ed (eA fLen (aCons (eVar 1) aNil))) aNil)) (tN 5) (sSeq (sIf (eTB (e2 fEq (ed (e2 fAnd (ed (e2 fShr (eVar 3) (ed (e2 fIx (eVar 1) (eVar 5))))) (eC (.int 1)))) (eC (.int 0)))) (sX (ed (eM "list" fAppend (eVar 2) (aCons (eVar 5) aNil)))) sPass)
  (sSet 3 (ed (e2 fOr (eVar 3) (ed (e2 fIx (eVar 4) (ed (e2 fIx (eVar 1) (eVar 5))))))))) [5])
  (sRet (ev (eVar 2)))))))
noncomputable def B_first_letters : BD := body 6 S_first_letters
theorem ok_first_letters {f_ : Addr} {fd_ : FuncData} {f_masks : Addr} {fd_masks : FuncData} (F0 : Fun K "first_letters" "first_letters" s_first_letters f_ fd_) (bt : Bt mg) (D_masks : Dg K mg "masks" "masks" s_masks ["alphabet"] f_masks fd_masks) (G_masks : FnOk P w K mg base (L2.CX P w) 2 f_masks fd_masks ["alphabet"] (spB ca 1 B_masks)) :
    FnOk P w K mg base (L2.CX P w) 3 f_ fd_ ["alphabet", "word"] (spB ca 2 B_first_letters) := by
  have N : (["alphabet", "word", "found", "blocked", "dependent", "k"] : List Str).Nodup := sc_first_letters.nd
  refine def_ok F0 sc_first_letters fun cdv A outer s H E hr => ?_
  have hu65 : (cxOf (L2.CX P w) P w K mg base ["alphabet", "word", "found", "blocked", "dependent", "k"] "first_letters" (defScope s_first_letters) f_ cdv A outer s H E).A.units + 65 < cLine := by have := hr.un; show (A.deeper _).units + 65 < cLine; omega
  have hu64 : (cxOf (L2.CX P w) P w K mg base ["alphabet", "word", "found", "blocked", "dependent", "k"] "first_letters" (defScope s_first_letters) f_ cdv A outer s H E).A.units + 64 < cLine := by omega
  have hu1 : (cxOf (L2.CX P w) P w K mg base ["alphabet", "word", "found", "blocked", "dependent", "k"] "first_letters" (defScope s_first_letters) f_ cdv A outer s H E).A.units + 1 < cLine := by omega
  have tk : Takes (cxOf (L2.CX P w) P w K mg base ["alphabet", "word", "found", "blocked", "dependent", "k"] "first_letters" (defScope s_first_letters) f_ cdv A outer s H E) (fun cls d _ H' => E cls d H') := takes_of rfl rfl rfl rfl
  unfold S_first_letters
  exact (sss_cons (ss_set N rfl (by first | exact Or.inl rfl | exact Or.inr rfl) (sd_al (se_lst sa_nil)) rfl (by first | exact Or.inl rfl | exact Or.inr rfl))
    (sss_cons (ss_set N rfl (by first | exact Or.inl rfl | exact Or.inr rfl) sd_int rfl (by first | exact Or.inl rfl | exact Or.inr rfl))
    (sss_cons (ss_set N rfl (by first | exact Or.inl rfl | exact Or.inr rfl) (SD.of (se_callN rfl G_masks (hr.mono (by decide)) (by rfl) D_masks.m D_masks.F.kp D_masks.b tk (sa_cons (sd_var (pv 0)) sa_nil rfl) (by decide) rfl rfl)) rfl (by first | exact Or.inl rfl | exact Or.inr rfl))
    (sss_cons (ss_for [5] (passes_of rfl) rfl (si_r1 (pi_range1 rfl bt.range (sa_cons (SD.of (se_b (pe_callB cr_len rfl bt.len b_len (sa_cons (sd_var (pv 1)) sa_nil rfl)) lk_len)) sa_nil rfl))) (sg_name (pg_name (i := 5) N rfl (by first | exact Or.inl rfl | exact Or.inr rfl))) (sss_cons (ss_if (sb_cmp (op_eqD hu64) lk_eq (SD.of (se_op op_and lk_and (SD.of (se_op op_shr lk_shr (sd_var (pv 3)) (SD.of (se_ix hu1 (sd_var (pv 1)) (sd_var (pv 5)) (fun _ _ => rfl))))) sd_int)) sd_int (nomark _)) (sss_one (ss_expr (SD.of (se_m (pe_bm PySem.F.plainAttrs_list PySem.F.slot_list_append PySem.F.type_list_append mt_append (sd_var (pv 2)) (sa_cons (sd_var (pv 5)) sa_nil rfl)) lk_append)) rfl)) sss_nil)
    (sss_one (ss_set N rfl (by first | exact Or.inl rfl | exact Or.inr rfl) (SD.of (se_op op_or lk_or (sd_var (pv 3)) (SD.of (se_ix hu1 (sd_var (pv 4)) (SD.of (se_ix hu1 (sd_var (pv 1)) (sd_var (pv 5)) (fun _ _ => rfl))) (fun _ _ => rfl))))) rfl (by first | exact Or.inl rfl | exact Or.inr rfl)))) (fun _ => rfl))
    (sss_one (ss_ret (SE.of (sd_var (pv 2)))))))))
abbrev s_Table_undo : Stmt := inClass (top 17) 7
theorem sc_Table_undo : FnScope ["self", "hand", "number"] ["self", "hand"] (defScope s_Table_undo) := ⟨rfl, rfl, rfl, by decide +kernel, rfl, by decide +kernel, by decide +kernel⟩
noncomputable def S_Table_undo : ST := (sSeq (sX (ed (eMeth clN 1 2 B_Table__check (eVar 0) (aCons (eVar 1) aNil))))
  (sSeq (sSet 2 (ed (eMeth clN 1 2 B_Table__newest (eVar 0) (aCons (eVar 1) aNil))))
  (sSeq (sIf (eTB (e2 fNe (ed (eMeth clN 1 2 B_Table__resting (eVar 0) (aCons (eVar 2) aNil))) (ed (eLst (aCons (eVar 2) aNil))))) (sRaise 2) sPass)
  (sSeq (sX (ed (eMeth clE 1 2 B_Table__take_back (eVar 0) (aCons (eVar 2) aNil))))
  (sRet (ev (eVar 2)))))))
noncomputable def B_Table_undo : BD := body 3 S_Table_undo
theorem ok_Table_undo {f_ : Addr} {fd_ : FuncData} {f_Table__check : Addr} {fd_Table__check : FuncData} {f_Table__newest : Addr} {fd_Table__newest : FuncData} {f_Table__resting : Addr} {fd_Table__resting : FuncData} {f_Table__take_back : Addr} {fd_Table__take_back : FuncData} (F0 : Fun K "undo" "Table.undo" s_Table_undo f_ fd_) (C_Table : ClF ca K 1 ["_alphabet", "_rows", "_events", "_count"]) (Ex_NotReady : ExF K mg ca "NotReady" 2) (D_Table__check : MtF K ca 1 "_check" s_Table__check ["self", "hand"] f_Table__check fd_Table__check) (G_Table__check : FnOk P w K mg base (L2.CX P w) 1 f_Table__check fd_Table__check ["self", "hand"] (spB ca 2 B_Table__check)) (D_Table__newest : MtF K ca 1 "_newest" s_Table__newest ["self", "hand"] f_Table__newest fd_Table__newest) (G_Table__newest : FnOk P w K mg base (L2.CX P w) 1 f_Table__newest fd_Table__newest ["self", "hand"] (spB ca 2 B_Table__newest)) (D_Table__resting : MtF K ca 1 "_resting" s_Table__resting ["self", "number"] f_Table__resting fd_Table__resting) (G_Table__resting : FnOk P w K mg base (L2.CX P w) 2 f_Table__resting fd_Table__resting ["self", "number"] (spB ca 2 B_Table__resting)) (D_Table__take_back : MtF K ca 1 "_take_back" s_Table__take_back ["self", "number"] f_Table__take_back fd_Table__take_back) (G_Table__take_back : FnOk P w K mg base (L2.CX P w) 1 f_Table__take_back fd_Table__take_back ["self", "number"] (spB ca 2 B_Table__take_back)) :
    FnOk P w K mg base (L2.CX P w) 3 f_ fd_ ["self", "hand"] (spB ca 2 B_Table_undo) := by
  have N : (["self", "hand", "number"] : List Str).Nodup := sc_Table_undo.nd
  refine def_ok F0 sc_Table_undo fun cdv A outer s H E hr => ?_
  have hu65 : (cxOf (L2.CX P w) P w K mg base ["self", "hand", "number"] "Table.undo" (defScope s_Table_undo) f_ cdv A outer s H E).A.units + 65 < cLine := by have := hr.un; show (A.deeper _).units + 65 < cLine; omega
  have hu64 : (cxOf (L2.CX P w) P w K mg base ["self", "hand", "number"] "Table.undo" (defScope s_Table_undo) f_ cdv A outer s H E).A.units + 64 < cLine := by omega
  have hu1 : (cxOf (L2.CX P w) P w K mg base ["self", "hand", "number"] "Table.undo" (defScope s_Table_undo) f_ cdv A outer s H E).A.units + 1 < cLine := by omega
  have tk : Takes (cxOf (L2.CX P w) P w K mg base ["self", "hand", "number"] "Table.undo" (defScope s_Table_undo) f_ cdv A outer s H E) (fun cls d _ H' => E cls d H') := takes_of rfl rfl rfl rfl
  unfold S_Table_undo
  exact (sss_cons (ss_expr (SD.of (se_meth clN_ok (cn := 1) rfl C_Table.cl D_Table__check G_Table__check (hr.mono (by decide)) tk (sd_var (pv 0)) (sa_cons (sd_var (pv 1)) sa_nil rfl) rfl rfl rfl)) rfl)
    (sss_cons (ss_set N rfl (by first | exact Or.inl rfl | exact Or.inr rfl) (SD.of (se_meth clN_ok (cn := 1) rfl C_Table.cl D_Table__newest G_Table__newest (hr.mono (by decide)) tk (sd_var (pv 0)) (sa_cons (sd_var (pv 1)) sa_nil rfl) rfl rfl rfl)) rfl (by first | exact Or.inl rfl | exact Or.inr rfl))
    (sss_cons (ss_if (sb_cmp (op_neD hu64) lk_ne (SD.of (se_meth clN_ok (cn := 1) rfl C_Table.cl D_Table__resting G_Table__resting (hr.mono (by decide)) tk (sd_var (pv 0)) (sa_cons (sd_var (pv 2)) sa_nil rfl) rfl rfl rfl)) (SD.of (se_lst (sa_cons (sd_var (pv 2)) sa_nil rfl))) (nomark _)) (sss_one (ss_raise (c := 2) rfl tk (pmk_own PySem.F.excBase_ValueError Ex_NotReady.ex Ex_NotReady.g Ex_NotReady.kp (raises_own Ex_NotReady.b Ex_NotReady.t) rfl))) sss_nil)
    (sss_cons (ss_expr (SD.of (se_meth clE_ok (cn := 1) rfl C_Table.cl D_Table__take_back G_Table__take_back (hr.mono (by decide)) tk (sd_var (pv 0)) (sa_cons (sd_var (pv 2)) sa_nil rfl) rfl rfl rfl)) rfl)
    (sss_one (ss_ret (SE.of (sd_var (pv 2)))))))))
abbrev s_Table_undo_with_all : Stmt := inClass (top 17) 8
theorem sc_Table_undo_with_all : FnScope ["self", "hand", "found", "number"] ["self", "hand"] (defScope s_Table_undo_with_all) := ⟨rfl, rfl, rfl, by decide +kernel, rfl, by decide +kernel, by decide +kernel⟩
noncomputable def S_Table_undo_with_all : ST := (sSeq (sX (ed (eMeth clN 1 2 B_Table__check (eVar 0) (aCons (eVar 1) aNil))))
  (sSeq (sSet 2 (ed (eMeth clN 1 2 B_Table__resting (eVar 0) (aCons (ed (eMeth clN 1 2 B_Table__newest (eVar 0) (aCons (eVar 1) aNil))) aNil))))
  (sSeq (sFor (iSeq (ed (Z.e1 fRevL (eVar 2)))) (tN 3) (sX (ed (eMeth clE 1 2 B_Table__take_back (eVar 0) (aCons (eVar 3) aNil)))) [3])
  (sRet (ev (eFz (eVar 2)))))))
noncomputable def B_Table_undo_with_all : BD := body 4 S_Table_undo_with_all
theorem ok_Table_undo_with_all {f_ : Addr} {fd_ : FuncData} {f_Table__check : Addr} {fd_Table__check : FuncData} {f_Table__resting : Addr} {fd_Table__resting : FuncData} {f_Table__newest : Addr} {fd_Table__newest : FuncData} {f_Table__take_back : Addr} {fd_Table__take_back : FuncData} (F0 : Fun K "undo_with_all" "Table.undo_with_all" s_Table_undo_with_all f_ fd_) (C_Table : ClF ca K 1 ["_alphabet", "_rows", "_events", "_count"]) (D_Table__check : MtF K ca 1 "_check" s_Table__check ["self", "hand"] f_Table__check fd_Table__check) (G_Table__check : FnOk P w K mg base (L2.CX P w) 1 f_Table__check fd_Table__check ["self", "hand"] (spB ca 2 B_Table__check)) (D_Table__resting : MtF K ca 1 "_resting" s_Table__resting ["self", "number"] f_Table__resting fd_Table__resting) (G_Table__resting : FnOk P w K mg base (L2.CX P w) 2 f_Table__resting fd_Table__resting ["self", "number"] (spB ca 2 B_Table__resting)) (D_Table__newest : MtF K ca 1 "_newest" s_Table__newest ["self", "hand"] f_Table__newest fd_Table__newest) (G_Table__newest : FnOk P w K mg base (L2.CX P w) 1 f_Table__newest fd_Table__newest ["self", "hand"] (spB ca 2 B_Table__newest)) (D_Table__take_back : MtF K ca 1 "_take_back" s_Table__take_back ["self", "number"] f_Table__take_back fd_Table__take_back) (G_Table__take_back : FnOk P w K mg base (L2.CX P w) 1 f_Table__take_back fd_Table__take_back ["self", "number"] (spB ca 2 B_Table__take_back)) :
    FnOk P w K mg base (L2.CX P w) 3 f_ fd_ ["self", "hand"] (spB ca 2 B_Table_undo_with_all) := by
  have N : (["self", "hand", "found", "number"] : List Str).Nodup := sc_Table_undo_with_all.nd
  refine def_ok F0 sc_Table_undo_with_all fun cdv A outer s H E hr => ?_
  have hu65 : (cxOf (L2.CX P w) P w K mg base ["self", "hand", "found", "number"] "Table.undo_with_all" (defScope s_Table_undo_with_all) f_ cdv A outer s H E).A.units + 65 < cLine := by have := hr.un; show (A.deeper _).units + 65 < cLine; omega
  have hu64 : (cxOf (L2.CX P w) P w K mg base ["self", "hand", "found", "number"] "Table.undo_with_all" (defScope s_Table_undo_with_all) f_ cdv A outer s H E).A.units + 64 < cLine := by omega
  have hu1 : (cxOf (L2.CX P w) P w K mg base ["self", "hand", "found", "number"] "Table.undo_with_all" (defScope s_Table_undo_with_all) f_ cdv A outer s H E).A.units + 1 < cLine := by omega
  have tk : Takes (cxOf (L2.CX P w) P w K mg base ["self", "hand", "found", "number"] "Table.undo_with_all" (defScope s_Table_undo_with_all) f_ cdv A outer s H E) (fun cls d _ H' => E cls d H') := takes_of rfl rfl rfl rfl
  unfold S_Table_undo_with_all
  exact (sss_cons (ss_expr (SD.of (se_meth clN_ok (cn := 1) rfl C_Table.cl D_Table__check G_Table__check (hr.mono (by decide)) tk (sd_var (pv 0)) (sa_cons (sd_var (pv 1)) sa_nil rfl) rfl rfl rfl)) rfl)
    (sss_cons (ss_set N rfl (by first | exact Or.inl rfl | exact Or.inr rfl) (SD.of (se_meth clN_ok (cn := 1) rfl C_Table.cl D_Table__resting G_Table__resting (hr.mono (by decide)) tk (sd_var (pv 0)) (sa_cons (SD.of (se_meth clN_ok (cn := 1) rfl C_Table.cl D_Table__newest G_Table__newest (hr.mono (by decide)) tk (sd_var (pv 0)) (sa_cons (sd_var (pv 1)) sa_nil rfl) rfl rfl rfl)) sa_nil rfl) rfl rfl rfl)) rfl (by first | exact Or.inl rfl | exact Or.inr rfl))
    (sss_cons (ss_for [3] (passes_of rfl) rfl (si_seq (SD.of (se_rev (sd_var (pv 2))))) (sg_name (pg_name (i := 3) N rfl (by first | exact Or.inl rfl | exact Or.inr rfl))) (sss_one (ss_expr (SD.of (se_meth clE_ok (cn := 1) rfl C_Table.cl D_Table__take_back G_Table__take_back (hr.mono (by decide)) tk (sd_var (pv 0)) (sa_cons (sd_var (pv 3)) sa_nil rfl) rfl rfl rfl)) rfl)) (fun _ => rfl))
    (sss_one (ss_ret (SE.of (sd_fz (sd_var (pv 2)))))))))
abbrev s__law_due : Stmt := top 31
theorem sc__law_due : FnScope ["draws", "letters", "model", "kind", "hand", "letter", "rows", "mine", "number", "other", "one", "last", "resting"] ["draws", "letters", "model", "kind", "hand", "letter"] (defScope s__law_due) := ⟨rfl, rfl, rfl, by decide +kernel, rfl, by decide +kernel, by decide +kernel⟩
noncomputable def S__law_due : ST := (sSeq (sSet 6 (eAl (e2 fIx (eVar 2) (eC (.str "rows")))))
  (sSeq (sIf (bNot (eTB (eCh fLe fLt (eC (.int 0)) (eVar 4) (ed (eA fLen (aCons (eVar 6) aNil)))))) (sRet (ev (eC (.str "hand")))) sPass)
  (sSeq (sSet 7 (ed (eComp (iSeq (ed (e2 fIx (eVar 2) (eC (.str "events"))))) (tTup (tCons (tN 8) (tCons (tN 9) (tCons (tN 10) tNil)))) (eTB (e2 fEq (eVar 9) (eVar 4))) (eVar 8) [8, 9, 10])))
  (sSeq (sIf (eTB (e2 fEq (eVar 3) (eC (.int 0)))) (sSeq (sPut (eVar 6) (eVar 4) (eTup aNil))
  (sRet (eCall 3 B__law_add (aCons (eVar 2) (aCons (eVar 4) (aCons (eVar 5) aNil)))))) sPass)
  (sSeq (sIf (eTB (e2 fEq (eVar 3) (eC (.int 3)))) (sSeq (sIf (eTB (e2 fEq (ed (eA fLen (aCons (ed (e2 fIx (eVar 6) (eVar 4))) aNil))) (eC (.int 0)))) (sRet (ev (eC (.str "ready")))) sPass)
  (sSeq (sSet 11 (ed (e2 fIx (ed (e2 fIx (eVar 6) (eVar 4))) (ed (e2 fSub (ed (eA fLen (aCons (ed (e2 fIx (eVar 6) (eVar 4))) aNil))) (eC (.int 1)))))))
  (sSeq (sPut (eVar 6) (eVar 4) (ed (eSl (ed (e2 fIx (eVar 6) (eVar 4))) oNone (oSome (ed (e2 fSub (ed (eA fLen (aCons (ed (e2 fIx (eVar 6) (eVar 4))) aNil))) (eC (.int 1))))))))
  (sRet (eCall 3 B__law_add (aCons (eVar 2) (aCons (eVar 4) (aCons (eVar 11) aNil)))))))) sPass)
  (sSeq (sIf (eTB (e2 fEq (ed (eA fLen (aCons (eVar 7) aNil))) (eC (.int 0)))) (sRet (ev (eC (.str "ready")))) sPass)
  (sSeq (sSet 12 (ed (eCall 3 B__law_resting (aCons (eVar 1) (aCons (ed (e2 fIx (eVar 2) (eC (.str "events")))) (aCons (ed (e2 fIx (eVar 7) (ed (e2 fSub (ed (eA fLen (aCons (eVar 7) aNil))) (eC (.int 1)))))) aNil))))))
  (sSeq (sIf (eTB (e2 fEq (eVar 3) (eC (.int 1)))) (sSeq (sIf (eTB (e2 fGt (ed (eA fLen (aCons (eVar 12) aNil))) (eC (.int 1)))) (sRet (ev (eC (.str "ready")))) sPass)
  (sSeq (sX (ed (eCall 2 B__law_take_back (aCons (eVar 2) (aCons (eVar 12) aNil)))))
  (sRet (e2 fIx (eVar 12) (eC (.int 0)))))) sPass)
  (sSeq (sX (ed (eCall 2 B__law_take_back (aCons (eVar 2) (aCons (eVar 12) aNil)))))
  (sRet (ev (eVar 12))))))))))))
noncomputable def B__law_due : BD := body 13 S__law_due
theorem ok__law_due {f_ : Addr} {fd_ : FuncData} {f__law_add : Addr} {fd__law_add : FuncData} {f__law_resting : Addr} {fd__law_resting : FuncData} {f__law_take_back : Addr} {fd__law_take_back : FuncData} (F0 : Fun K "_law_due" "_law_due" s__law_due f_ fd_) (bt : Bt mg) (D__law_add : Dg K mg "_law_add" "_law_add" s__law_add ["model", "hand", "letter"] f__law_add fd__law_add) (G__law_add : FnOk P w K mg base (L2.CX P w) 1 f__law_add fd__law_add ["model", "hand", "letter"] (spB ca 3 B__law_add)) (D__law_resting : Dg K mg "_law_resting" "_law_resting" s__law_resting ["letters", "events", "number"] f__law_resting fd__law_resting) (G__law_resting : FnOk P w K mg base (L2.CX P w) 2 f__law_resting fd__law_resting ["letters", "events", "number"] (spB ca 3 B__law_resting)) (D__law_take_back : Dg K mg "_law_take_back" "_law_take_back" s__law_take_back ["model", "numbers"] f__law_take_back fd__law_take_back) (G__law_take_back : FnOk P w K mg base (L2.CX P w) 1 f__law_take_back fd__law_take_back ["model", "numbers"] (spB ca 2 B__law_take_back)) :
    FnOk P w K mg base (L2.CX P w) 3 f_ fd_ ["draws", "letters", "model", "kind", "hand", "letter"] (spB ca 6 B__law_due) := by
  have N : (["draws", "letters", "model", "kind", "hand", "letter", "rows", "mine", "number", "other", "one", "last", "resting"] : List Str).Nodup := sc__law_due.nd
  refine def_ok F0 sc__law_due fun cdv A outer s H E hr => ?_
  have hu65 : (cxOf (L2.CX P w) P w K mg base ["draws", "letters", "model", "kind", "hand", "letter", "rows", "mine", "number", "other", "one", "last", "resting"] "_law_due" (defScope s__law_due) f_ cdv A outer s H E).A.units + 65 < cLine := by have := hr.un; show (A.deeper _).units + 65 < cLine; omega
  have hu64 : (cxOf (L2.CX P w) P w K mg base ["draws", "letters", "model", "kind", "hand", "letter", "rows", "mine", "number", "other", "one", "last", "resting"] "_law_due" (defScope s__law_due) f_ cdv A outer s H E).A.units + 64 < cLine := by omega
  have hu1 : (cxOf (L2.CX P w) P w K mg base ["draws", "letters", "model", "kind", "hand", "letter", "rows", "mine", "number", "other", "one", "last", "resting"] "_law_due" (defScope s__law_due) f_ cdv A outer s H E).A.units + 1 < cLine := by omega
  have tk : Takes (cxOf (L2.CX P w) P w K mg base ["draws", "letters", "model", "kind", "hand", "letter", "rows", "mine", "number", "other", "one", "last", "resting"] "_law_due" (defScope s__law_due) f_ cdv A outer s H E) (fun cls d _ H' => E cls d H') := takes_of rfl rfl rfl rfl
  unfold S__law_due
  exact (sss_cons (ss_set N rfl (by first | exact Or.inl rfl | exact Or.inr rfl) (sd_al (se_ix hu1 (sd_var (pv 2)) sd_str (fun _ _ => rfl))) rfl (by first | exact Or.inl rfl | exact Or.inr rfl))
    (sss_cons (ss_if (sb_not (sb_ch op_le op_lt lk_le lk_lt sd_int (sd_var (pv 4)) (SD.of (se_b (pe_callB cr_len rfl bt.len b_len (sa_cons (sd_var (pv 6)) sa_nil rfl)) lk_len)) (by with_unfolding_all rfl))) (sss_one (ss_ret (SE.of sd_str))) sss_nil)
    (sss_cons (ss_setLc (own := [(("number" : Str), 8), (("other" : Str), 9), (("one" : Str), 10)]) rfl N rfl rfl (sw_true rfl rfl rfl (by decide +kernel)) (si_seq (SD.of (se_ix hu1 (sd_var (pv 2)) sd_str (fun _ _ => rfl)))) (blkOk_by (by rfl)) (fun _ _ _ _ _ => by exact (sgw_tup rfl (sgws_cons (sgw_name (pg_name (i := 8) N rfl (by first | exact Or.inl rfl | exact Or.inr rfl)) (by decide)) (sgws_cons (sgw_name (pg_name (i := 9) N rfl (by first | exact Or.inl rfl | exact Or.inr rfl)) (by decide)) (sgws_cons (sgw_name (pg_name (i := 10) N rfl (by first | exact Or.inl rfl | exact Or.inr rfl)) (by decide)) sgws_nil rfl) rfl) rfl) (len_cons (len_cons (len_cons len_nil))) rfl rfl)) (fun _ _ _ _ _ => by exact (sts_one (sb_cmp (op_eqD hu64) lk_eq (sd_var (pv 9)) (sd_var (pv 4)) (nomark _)))) (fun _ _ _ _ _ => by exact (sd_var (pv 8))) (fun _ => rfl))
    (sss_cons (ss_if (sb_cmp (op_eqD hu64) lk_eq (sd_var (pv 3)) sd_int (nomark _)) (sss_cons (ss_put hu1 (sd_var (pv 6)) (sd_var (pv 4)) (sd_tup sa_nil) (fun _ => rfl) rfl rfl rfl)
    (sss_one (ss_ret (se_callN rfl G__law_add (hr.mono (by decide)) (by rfl) D__law_add.m D__law_add.F.kp D__law_add.b tk (sa_cons (sd_var (pv 2)) (sa_cons (sd_var (pv 4)) (sa_cons (sd_var (pv 5)) sa_nil rfl) rfl) rfl) (by decide) rfl rfl)))) sss_nil)
    (sss_cons (ss_if (sb_cmp (op_eqD hu64) lk_eq (sd_var (pv 3)) sd_int (nomark _)) (sss_cons (ss_if (sb_cmp (op_eqD hu64) lk_eq (SD.of (se_b (pe_callB cr_len rfl bt.len b_len (sa_cons (SD.of (se_ix hu1 (sd_var (pv 6)) (sd_var (pv 4)) (fun _ _ => rfl))) sa_nil rfl)) lk_len)) sd_int (nomark _)) (sss_one (ss_ret (SE.of sd_str))) sss_nil)
    (sss_cons (ss_set N rfl (by first | exact Or.inl rfl | exact Or.inr rfl) (SD.of (se_ix hu1 (SD.of (se_ix hu1 (sd_var (pv 6)) (sd_var (pv 4)) (fun _ _ => rfl))) (SD.of (se_op op_sub lk_sub (SD.of (se_b (pe_callB cr_len rfl bt.len b_len (sa_cons (SD.of (se_ix hu1 (sd_var (pv 6)) (sd_var (pv 4)) (fun _ _ => rfl))) sa_nil rfl)) lk_len)) sd_int)) (fun _ _ => rfl))) rfl (by first | exact Or.inl rfl | exact Or.inr rfl))
    (sss_cons (ss_put hu1 (sd_var (pv 6)) (sd_var (pv 4)) (SD.of (se_sl (SD.of (se_ix hu1 (sd_var (pv 6)) (sd_var (pv 4)) (fun _ _ => rfl))) so_none (so_some (SD.of (se_op op_sub lk_sub (SD.of (se_b (pe_callB cr_len rfl bt.len b_len (sa_cons (SD.of (se_ix hu1 (sd_var (pv 6)) (sd_var (pv 4)) (fun _ _ => rfl))) sa_nil rfl)) lk_len)) sd_int))))) (fun _ => rfl) rfl rfl rfl)
    (sss_one (ss_ret (se_callN rfl G__law_add (hr.mono (by decide)) (by rfl) D__law_add.m D__law_add.F.kp D__law_add.b tk (sa_cons (sd_var (pv 2)) (sa_cons (sd_var (pv 4)) (sa_cons (sd_var (pv 11)) sa_nil rfl) rfl) rfl) (by decide) rfl rfl)))))) sss_nil)
    (sss_cons (ss_if (sb_cmp (op_eqD hu64) lk_eq (SD.of (se_b (pe_callB cr_len rfl bt.len b_len (sa_cons (sd_var (pv 7)) sa_nil rfl)) lk_len)) sd_int (nomark _)) (sss_one (ss_ret (SE.of sd_str))) sss_nil)
    (sss_cons (ss_set N rfl (by first | exact Or.inl rfl | exact Or.inr rfl) (SD.of (se_callN rfl G__law_resting (hr.mono (by decide)) (by rfl) D__law_resting.m D__law_resting.F.kp D__law_resting.b tk (sa_cons (sd_var (pv 1)) (sa_cons (SD.of (se_ix hu1 (sd_var (pv 2)) sd_str (fun _ _ => rfl))) (sa_cons (SD.of (se_ix hu1 (sd_var (pv 7)) (SD.of (se_op op_sub lk_sub (SD.of (se_b (pe_callB cr_len rfl bt.len b_len (sa_cons (sd_var (pv 7)) sa_nil rfl)) lk_len)) sd_int)) (fun _ _ => rfl))) sa_nil rfl) rfl) rfl) (by decide) rfl rfl)) rfl (by first | exact Or.inl rfl | exact Or.inr rfl))
    (sss_cons (ss_if (sb_cmp (op_eqD hu64) lk_eq (sd_var (pv 3)) sd_int (nomark _)) (sss_cons (ss_if (sb_cmp op_gt lk_gt (SD.of (se_b (pe_callB cr_len rfl bt.len b_len (sa_cons (sd_var (pv 12)) sa_nil rfl)) lk_len)) sd_int (nomark _)) (sss_one (ss_ret (SE.of sd_str))) sss_nil)
    (sss_cons (ss_expr (SD.of (se_callN rfl G__law_take_back (hr.mono (by decide)) (by rfl) D__law_take_back.m D__law_take_back.F.kp D__law_take_back.b tk (sa_cons (sd_var (pv 2)) (sa_cons (sd_var (pv 12)) sa_nil rfl) rfl) (by decide) rfl rfl)) rfl)
    (sss_one (ss_ret (se_ix hu1 (sd_var (pv 12)) sd_int (fun _ _ => rfl)))))) sss_nil)
    (sss_cons (ss_expr (SD.of (se_callN rfl G__law_take_back (hr.mono (by decide)) (by rfl) D__law_take_back.m D__law_take_back.F.kp D__law_take_back.b tk (sa_cons (sd_var (pv 2)) (sa_cons (sd_var (pv 12)) sa_nil rfl) rfl) (by decide) rfl rfl)) rfl)
    (sss_one (ss_ret (SE.of (sd_var (pv 12))))))))))))))
abbrev s_least_form : Stmt := top 14
theorem sc_least_form : FnScope ["alphabet", "word", "rest", "found", "best", "k"] ["alphabet", "word"] (defScope s_least_form) := ⟨rfl, rfl, rfl, by decide +kernel, rfl, by decide +kernel, by decide +kernel⟩
noncomputable def S_least_form : ST := (sSeq (sSet 2 (eAl (eA fList (aCons (eVar 1) aNil))))
  (sSeq (sSet 3 (eAl (eLst aNil)))
  (sSeq (sWh (eTB (e2 fGt (ed (eA fLen (aCons (eVar 2) aNil))) (eC (.int 0)))) (sSeq (sSet 4 (ed (e1 fNeg (eC (.int 1)))))
  (sSeq (sFor (iSeq (ed (eCall 2 B_first_letters (aCons (eVar 0) (aCons (eVar 2) aNil))))) (tN 5) (sIf (bOr (eTB (e2 fLt (eVar 4) (eC (.int 0)))) (eTB (e2 fLt (ed (e2 fIx (eVar 2) (eVar 5))) (ed (e2 fIx (eVar 2) (eVar 4)))))) (sSet 4 (eVar 5)) sPass) [5])
  (sX (ed (eM "list" fAppend (eVar 3) (aCons (ed (eM "list" fPopAt (eVar 2) (aCons (eVar 4) aNil))) aNil)))))) [4, 5])
  (sRet (eA fTuple (aCons (eVar 3) aNil))))))
noncomputable def B_least_form : BD := body 6 S_least_form
theorem ok_least_form {f_ : Addr} {fd_ : FuncData} {f_first_letters : Addr} {fd_first_letters : FuncData} (F0 : Fun K "least_form" "least_form" s_least_form f_ fd_) (bt : Bt mg) (D_first_letters : Dg K mg "first_letters" "first_letters" s_first_letters ["alphabet", "word"] f_first_letters fd_first_letters) (G_first_letters : FnOk P w K mg base (L2.CX P w) 3 f_first_letters fd_first_letters ["alphabet", "word"] (spB ca 2 B_first_letters)) :
    FnOk P w K mg base (L2.CX P w) 4 f_ fd_ ["alphabet", "word"] (spB ca 2 B_least_form) := by
  have N : (["alphabet", "word", "rest", "found", "best", "k"] : List Str).Nodup := sc_least_form.nd
  refine def_ok F0 sc_least_form fun cdv A outer s H E hr => ?_
  have hu65 : (cxOf (L2.CX P w) P w K mg base ["alphabet", "word", "rest", "found", "best", "k"] "least_form" (defScope s_least_form) f_ cdv A outer s H E).A.units + 65 < cLine := by have := hr.un; show (A.deeper _).units + 65 < cLine; omega
  have hu64 : (cxOf (L2.CX P w) P w K mg base ["alphabet", "word", "rest", "found", "best", "k"] "least_form" (defScope s_least_form) f_ cdv A outer s H E).A.units + 64 < cLine := by omega
  have hu1 : (cxOf (L2.CX P w) P w K mg base ["alphabet", "word", "rest", "found", "best", "k"] "least_form" (defScope s_least_form) f_ cdv A outer s H E).A.units + 1 < cLine := by omega
  have tk : Takes (cxOf (L2.CX P w) P w K mg base ["alphabet", "word", "rest", "found", "best", "k"] "least_form" (defScope s_least_form) f_ cdv A outer s H E) (fun cls d _ H' => E cls d H') := takes_of rfl rfl rfl rfl
  unfold S_least_form
  exact (sss_cons (ss_set N rfl (by first | exact Or.inl rfl | exact Or.inr rfl) (sd_al (se_b (pe_callTy call_list_of rfl bt.list b_list (sa_cons (sd_var (pv 1)) sa_nil rfl)) lk_list)) rfl (by first | exact Or.inl rfl | exact Or.inr rfl))
    (sss_cons (ss_set N rfl (by first | exact Or.inl rfl | exact Or.inr rfl) (sd_al (se_lst sa_nil)) rfl (by first | exact Or.inl rfl | exact Or.inr rfl))
    (sss_cons (ss_while [4, 5] (passes_of rfl) (sb_cmp op_gt lk_gt (SD.of (se_b (pe_callB cr_len rfl bt.len b_len (sa_cons (sd_var (pv 2)) sa_nil rfl)) lk_len)) sd_int (nomark _)) (sss_cons (ss_set N rfl (by first | exact Or.inl rfl | exact Or.inr rfl) (SD.of (se_un un_neg lk_neg sd_int)) rfl (by first | exact Or.inl rfl | exact Or.inr rfl))
    (sss_cons (ss_for [5] (passes_of rfl) rfl (si_seq (SD.of (se_callN rfl G_first_letters (hr.mono (by decide)) (by rfl) D_first_letters.m D_first_letters.F.kp D_first_letters.b tk (sa_cons (sd_var (pv 0)) (sa_cons (sd_var (pv 2)) sa_nil rfl) rfl) (by decide) rfl rfl))) (sg_name (pg_name (i := 5) N rfl (by first | exact Or.inl rfl | exact Or.inr rfl))) (sss_one (ss_if (sb_w (sw_or (sb_cmp op_lt lk_lt (sd_var (pv 4)) sd_int (nomark _)) (sw_or1 (sb_cmp op_lt lk_lt (SD.of (se_ix hu1 (sd_var (pv 2)) (sd_var (pv 5)) (fun _ _ => rfl))) (SD.of (se_ix hu1 (sd_var (pv 2)) (sd_var (pv 4)) (fun _ _ => rfl))) (nomark _))))) (sss_one (ss_set N rfl (by first | exact Or.inl rfl | exact Or.inr rfl) (sd_var (pv 5)) rfl (by first | exact Or.inl rfl | exact Or.inr rfl))) sss_nil)) (fun _ => rfl))
    (sss_one (ss_expr (SD.of (se_m (pe_bm PySem.F.plainAttrs_list PySem.F.slot_list_append PySem.F.type_list_append mt_append (sd_var (pv 3)) (sa_cons (SD.of (se_m (pe_bm PySem.F.plainAttrs_list PySem.F.slot_list_pop PySem.F.type_list_pop mt_popAt (sd_var (pv 2)) (sa_cons (sd_var (pv 4)) sa_nil rfl)) lk_popAt)) sa_nil rfl)) lk_append)) rfl)))))
    (sss_one (ss_ret (se_b (pe_callTy call_tuple_of rfl bt.tuple b_tuple (sa_cons (sd_var (pv 3)) sa_nil rfl)) lk_tuple))))))
abbrev s_Table_word : Stmt := inClass (top 17) 12
theorem sc_Table_word : FnScope ["self", "_", "letter"] ["self"] (defScope s_Table_word) := ⟨rfl, rfl, rfl, by decide +kernel, rfl, by decide +kernel, by decide +kernel⟩
noncomputable def S_Table_word : ST := (sRet (eCall 2 B_least_form (aCons (ed (e1 (fFld [1] 0) (eVar 0))) (aCons (ed (eComp (iSeq (ed (e1 (fFld [1] 2) (eVar 0)))) (tTup (tCons (tN 1) (tCons (tN 1) (tCons (tN 2) tNil)))) bYes (eVar 2) [1, 2])) aNil))))
noncomputable def B_Table_word : BD := body 3 S_Table_word
theorem ok_Table_word {f_ : Addr} {fd_ : FuncData} {f_least_form : Addr} {fd_least_form : FuncData} (F0 : Fun K "word" "Table.word" s_Table_word f_ fd_) (C_Table : ClF ca K 1 ["_alphabet", "_rows", "_events", "_count"]) (D_least_form : Dg K mg "least_form" "least_form" s_least_form ["alphabet", "word"] f_least_form fd_least_form) (G_least_form : FnOk P w K mg base (L2.CX P w) 4 f_least_form fd_least_form ["alphabet", "word"] (spB ca 2 B_least_form)) :
    FnOk P w K mg base (L2.CX P w) 5 f_ fd_ ["self"] (spB ca 1 B_Table_word) := by
  have N : (["self", "_", "letter"] : List Str).Nodup := sc_Table_word.nd
  refine def_ok F0 sc_Table_word fun cdv A outer s H E hr => ?_
  have hu65 : (cxOf (L2.CX P w) P w K mg base ["self", "_", "letter"] "Table.word" (defScope s_Table_word) f_ cdv A outer s H E).A.units + 65 < cLine := by have := hr.un; show (A.deeper _).units + 65 < cLine; omega
  have hu64 : (cxOf (L2.CX P w) P w K mg base ["self", "_", "letter"] "Table.word" (defScope s_Table_word) f_ cdv A outer s H E).A.units + 64 < cLine := by omega
  have hu1 : (cxOf (L2.CX P w) P w K mg base ["self", "_", "letter"] "Table.word" (defScope s_Table_word) f_ cdv A outer s H E).A.units + 1 < cLine := by omega
  have tk : Takes (cxOf (L2.CX P w) P w K mg base ["self", "_", "letter"] "Table.word" (defScope s_Table_word) f_ cdv A outer s H E) (fun cls d _ H' => E cls d H') := takes_of rfl rfl rfl rfl
  unfold S_Table_word
  exact (sss_one (ss_ret (se_callN rfl G_least_form (hr.mono (by decide)) (by rfl) D_least_form.m D_least_form.F.kp D_least_form.b tk (sa_cons (SD.of (se_fld (sd_var (pv 0)) rfl (C_Table.at (i := 0) (by decide +kernel) rfl))) (sa_cons (SD.of (se_lc (own := [(("_" : Str), 1), (("letter" : Str), 2)]) rfl N (si_seq (SD.of (se_fld (sd_var (pv 0)) rfl (C_Table.at (i := 2) (by decide +kernel) rfl)))) (blkOk_by (by rfl)) (fun _ _ _ _ _ => by exact (sgw_tup rfl (sgws_cons (sgw_name (pg_name (i := 1) N rfl (by first | exact Or.inl rfl | exact Or.inr rfl)) (by decide)) (sgws_cons (sgw_name (pg_name (i := 1) N rfl (by first | exact Or.inl rfl | exact Or.inr rfl)) (by decide)) (sgws_cons (sgw_name (pg_name (i := 2) N rfl (by first | exact Or.inl rfl | exact Or.inr rfl)) (by decide)) sgws_nil rfl) rfl) rfl) (len_cons (len_cons (len_cons len_nil))) rfl rfl)) (fun _ _ _ _ _ => by exact sts_nil) (fun _ _ _ _ _ => by exact (sd_var (pv 2))) (fun _ => rfl))) sa_nil rfl) rfl) (by decide) rfl rfl)))
abbrev s__law_called : Stmt := top 32
theorem sc__law_called : FnScope ["table", "kind", "hand", "letter"] ["table", "kind", "hand", "letter"] (defScope s__law_called) := ⟨rfl, rfl, rfl, by decide +kernel, rfl, by decide +kernel, by decide +kernel⟩
noncomputable def S__law_called : ST := (sSeq (sIf (eTB (e2 fEq (eVar 1) (eC (.int 0)))) (sRet (eLam 0 (tlTold 3 "hand" 2 "ready") (eMeth clN 1 3 B_Table_do (eVar 0) (aCons (eVar 2) (aCons (eVar 3) aNil))))) sPass)
  (sSeq (sIf (eTB (e2 fEq (eVar 1) (eC (.int 1)))) (sRet (eLam 0 (tlTold 3 "hand" 2 "ready") (eMeth clE 1 2 B_Table_undo (eVar 0) (aCons (eVar 2) aNil)))) sPass)
  (sSeq (sIf (eTB (e2 fEq (eVar 1) (eC (.int 2)))) (sRet (eLam 0 (tlTold 3 "hand" 2 "ready") (eMeth clE 1 2 B_Table_undo_with_all (eVar 0) (aCons (eVar 2) aNil)))) sPass)
  (sRet (eLam 0 (tlTold 3 "hand" 2 "ready") (eMeth clN 1 2 B_Table_do_again (eVar 0) (aCons (eVar 2) aNil)))))))
noncomputable def B__law_called : BD := body 4 S__law_called
theorem ok__law_called {f_ c_ P_ : Addr} {od_ an_ : Option Addr} {sl_ : Array (Option Value)} {oc_ kV_ dc_ pm_ ct_ : Value} {f__law_told : Addr} {fd__law_told : FuncData} {f_Table_do : Addr} {fd_Table_do : FuncData} {f_Table_undo : Addr} {fd_Table_undo : FuncData} {f_Table_undo_with_all : Addr} {fd_Table_undo_with_all : FuncData} {f_Table_do_again : Addr} {fd_Table_do_again : FuncData} (l0 : K.lookup f_ = some ⟨oc_, od_, .func (PySem.W.fnOf "_law_called" "_law_called" (defArgs s__law_called) (defBody s__law_called) (defScope s__law_called) .none kV_ dc_ pm_ an_ (.ref c_) ct_), sl_⟩) (c0 : PySem.W.codeIn K (.ref c_) "_law_called" = true) (TB : LamX.TabB base mg c_ P_) (T0 : ca.tb 0 = (P_, (("_law_called" : Str) ++ ".<locals>.") ++ "<lambda>")) (C_Table : ClF ca K 1 ["_alphabet", "_rows", "_events", "_count"]) (Ex_InvalidHand : ExF K mg ca "InvalidHand" 3) (Ex_NotReady : ExF K mg ca "NotReady" 2) (Ne_NotReady_InvalidHand : PySem.W.exmOne K (.ref (ca.ad 2)) (.ref (ca.ad 3)) = some false) (D__law_told : Dg K mg "_law_told" "_law_told" s__law_told ["call"] f__law_told fd__law_told) (D_Table_do : MtF K ca 1 "do" s_Table_do ["self", "hand", "letter"] f_Table_do fd_Table_do) (G_Table_do : FnOk P w K mg base (L2.CX P w) 2 f_Table_do fd_Table_do ["self", "hand", "letter"] (spB ca 3 B_Table_do)) (D_Table_undo : MtF K ca 1 "undo" s_Table_undo ["self", "hand"] f_Table_undo fd_Table_undo) (G_Table_undo : FnOk P w K mg base (L2.CX P w) 3 f_Table_undo fd_Table_undo ["self", "hand"] (spB ca 2 B_Table_undo)) (D_Table_undo_with_all : MtF K ca 1 "undo_with_all" s_Table_undo_with_all ["self", "hand"] f_Table_undo_with_all fd_Table_undo_with_all) (G_Table_undo_with_all : FnOk P w K mg base (L2.CX P w) 3 f_Table_undo_with_all fd_Table_undo_with_all ["self", "hand"] (spB ca 2 B_Table_undo_with_all)) (D_Table_do_again : MtF K ca 1 "do_again" s_Table_do_again ["self", "hand"] f_Table_do_again fd_Table_do_again) (G_Table_do_again : FnOk P w K mg base (L2.CX P w) 2 f_Table_do_again fd_Table_do_again ["self", "hand"] (spB ca 2 B_Table_do_again)) :
    FnOk P w K mg base (L2.CX P w) 6 f_ (PySem.W.fnOf "_law_called" "_law_called" (defArgs s__law_called) (defBody s__law_called) (defScope s__law_called) .none kV_ dc_ pm_ an_ (.ref c_) ct_) ["table", "kind", "hand", "letter"] (spB ca 4 B__law_called) := by
  have N : (["table", "kind", "hand", "letter"] : List Str).Nodup := sc__law_called.nd
  refine def_okL l0 c0 sc__law_called fun A outer s H E hr => ?_
  have hu65 : (cxOf (L2.CX P w) P w K mg base ["table", "kind", "hand", "letter"] "_law_called" (defScope s__law_called) f_ (.ref c_) A outer s H E).A.units + 65 < cLine := by have := hr.un; show (A.deeper _).units + 65 < cLine; omega
  have hu64 : (cxOf (L2.CX P w) P w K mg base ["table", "kind", "hand", "letter"] "_law_called" (defScope s__law_called) f_ (.ref c_) A outer s H E).A.units + 64 < cLine := by omega
  have hu1 : (cxOf (L2.CX P w) P w K mg base ["table", "kind", "hand", "letter"] "_law_called" (defScope s__law_called) f_ (.ref c_) A outer s H E).A.units + 1 < cLine := by omega
  have tk : Takes (cxOf (L2.CX P w) P w K mg base ["table", "kind", "hand", "letter"] "_law_called" (defScope s__law_called) f_ (.ref c_) A outer s H E) (fun cls d _ H' => E cls d H') := takes_of rfl rfl rfl rfl
  unfold S__law_called
  exact (sss_cons (ss_if (sb_cmp (op_eqD hu64) lk_eq (sd_var (pv 1)) sd_int (nomark _)) (sss_one (ss_ret (se_lam (k := 3) (j := 0) rfl (gets__law_told D__law_told Ex_InvalidHand Ex_NotReady) (tells_told Ex_InvalidHand.em Ex_NotReady.em Ne_NotReady_InvalidHand) TB rfl rfl T0 (hr.mono (by decide)) rfl rfl (fun _ _ _ _ _ => rfl) (fun _ _ _ _ _ _ _ hr => by exact (se_meth clN_ok (cn := 1) rfl C_Table.cl D_Table_do G_Table_do (hr.mono (by decide)) (takes_of rfl rfl rfl rfl) (sd_var (pv 0)) (sa_cons (sd_var (pv 2)) (sa_cons (sd_var (pv 3)) sa_nil rfl) rfl) rfl rfl rfl)) rfl rfl rfl))) sss_nil)
    (sss_cons (ss_if (sb_cmp (op_eqD hu64) lk_eq (sd_var (pv 1)) sd_int (nomark _)) (sss_one (ss_ret (se_lam (k := 3) (j := 0) rfl (gets__law_told D__law_told Ex_InvalidHand Ex_NotReady) (tells_told Ex_InvalidHand.em Ex_NotReady.em Ne_NotReady_InvalidHand) TB rfl rfl T0 (hr.mono (by decide)) rfl rfl (fun _ _ _ _ _ => rfl) (fun _ _ _ _ _ _ _ hr => by exact (se_meth clE_ok (cn := 1) rfl C_Table.cl D_Table_undo G_Table_undo (hr.mono (by decide)) (takes_of rfl rfl rfl rfl) (sd_var (pv 0)) (sa_cons (sd_var (pv 2)) sa_nil rfl) rfl rfl rfl)) rfl rfl rfl))) sss_nil)
    (sss_cons (ss_if (sb_cmp (op_eqD hu64) lk_eq (sd_var (pv 1)) sd_int (nomark _)) (sss_one (ss_ret (se_lam (k := 3) (j := 0) rfl (gets__law_told D__law_told Ex_InvalidHand Ex_NotReady) (tells_told Ex_InvalidHand.em Ex_NotReady.em Ne_NotReady_InvalidHand) TB rfl rfl T0 (hr.mono (by decide)) rfl rfl (fun _ _ _ _ _ => rfl) (fun _ _ _ _ _ _ _ hr => by exact (se_meth clE_ok (cn := 1) rfl C_Table.cl D_Table_undo_with_all G_Table_undo_with_all (hr.mono (by decide)) (takes_of rfl rfl rfl rfl) (sd_var (pv 0)) (sa_cons (sd_var (pv 2)) sa_nil rfl) rfl rfl rfl)) rfl rfl rfl))) sss_nil)
    (sss_one (ss_ret (se_lam (k := 3) (j := 0) rfl (gets__law_told D__law_told Ex_InvalidHand Ex_NotReady) (tells_told Ex_InvalidHand.em Ex_NotReady.em Ne_NotReady_InvalidHand) TB rfl rfl T0 (hr.mono (by decide)) rfl rfl (fun _ _ _ _ _ => rfl) (fun _ _ _ _ _ _ _ hr => by exact (se_meth clN_ok (cn := 1) rfl C_Table.cl D_Table_do_again G_Table_do_again (hr.mono (by decide)) (takes_of rfl rfl rfl rfl) (sd_var (pv 0)) (sa_cons (sd_var (pv 2)) sa_nil rfl) rfl rfl rfl)) rfl rfl rfl))))))
abbrev s__law_same : Stmt := top 24
theorem sc__law_same : FnScope ["found", "due", "k"] ["found", "due"] (defScope s__law_same) := ⟨rfl, rfl, rfl, by decide +kernel, rfl, by decide +kernel, by decide +kernel⟩
noncomputable def S__law_same (R_ : BD) : ST := (sSeq (sIf (eTB (e1 (fIsN false) (eVar 1))) (sRet (e1 (fIsN false) (eVar 0))) sPass)
  (sSeq (sIf (eT (eIsI "bool" (eVar 1))) (sRet (ev (vAnd (eIsI "bool" (eVar 0)) (ed (e2 fEq (eVar 0) (eVar 1)))))) sPass)
  (sSeq (sIf (eT (eIsI "int" (eVar 1))) (sRet (ev (vAnd (eIsI "int" (eVar 0)) (vAnd (ed (e1 fNotB (eIsI "bool" (eVar 0)))) (ed (e2 fEq (eVar 0) (eVar 1))))))) sPass)
  (sSeq (sIf (eT (eIsI "str" (eVar 1))) (sRet (ev (vAnd (eIsI "str" (eVar 0)) (ed (e2 fEq (eVar 0) (eVar 1)))))) sPass)
  (sSeq (sIf (eT (eIsI "dict" (eVar 1))) (sRet (ev (vAnd (eIsI "dict" (eVar 0)) (ed (e2 fEq (eVar 0) (eVar 1)))))) sPass)
  (sSeq (sIf (bOr (eTB (e2 fNe (eIsI "tuple" (eVar 1)) (eIsI "tuple" (eVar 0)))) (eTB (e2 fNe (eIsI "list" (eVar 1)) (eIsI "list" (eVar 0))))) (sRet (ev (eC (.bl false)))) sPass)
  (sRet (ev (vAnd (ed (e2 fEq (ed (eA fLen (aCons (eVar 0) aNil))) (ed (eA fLen (aCons (eVar 1) aNil))))) (ed (eA fAll (aCons (ed (eComp (iR1 (aCons (ed (eA fLen (aCons (eVar 1) aNil))) aNil)) (tN 2) bYes (ed (eCall 2 R_ (aCons (ed (e2 fIx (eVar 0) (eVar 2))) (aCons (ed (e2 fIx (eVar 1) (eVar 2))) aNil)))) [2])) aNil))))))))))))
noncomputable def B__law_same : Nat → BD
  | 0 => fun _ _ _ => .stuck
  | k + 1 => body 3 (S__law_same (B__law_same k))
theorem ok__law_same {f_ : Addr} {fd_ : FuncData} (D0 : Df K mg "_law_same" s__law_same ["found", "due"] f_ fd_) (bt : Bt mg) :
    ∀ k : Nat, FnOk P w K mg base (L2.CX P w) (k + 1) f_ fd_ ["found", "due"] (spB ca 2 (B__law_same k))
  | 0 => stuck_ok
  | k + 1 => by
    have G__law_same := ok__law_same D0 bt k
    have D__law_same := D0.dg
    have N : (["found", "due", "k"] : List Str).Nodup := sc__law_same.nd
    refine def_ok D0.F sc__law_same fun cdv A outer s H E hr => ?_
    have hu65 : (cxOf (L2.CX P w) P w K mg base ["found", "due", "k"] "_law_same" (defScope s__law_same) f_ cdv A outer s H E).A.units + 65 < cLine := by have := hr.un; show (A.deeper _).units + 65 < cLine; omega
    have hu64 : (cxOf (L2.CX P w) P w K mg base ["found", "due", "k"] "_law_same" (defScope s__law_same) f_ cdv A outer s H E).A.units + 64 < cLine := by omega
    have hu1 : (cxOf (L2.CX P w) P w K mg base ["found", "due", "k"] "_law_same" (defScope s__law_same) f_ cdv A outer s H E).A.units + 1 < cLine := by omega
    have tk : Takes (cxOf (L2.CX P w) P w K mg base ["found", "due", "k"] "_law_same" (defScope s__law_same) f_ cdv A outer s H E) (fun cls d _ H' => E cls d H') := takes_of rfl rfl rfl rfl
    unfold S__law_same
    exact (sss_cons (ss_if (sb_isN (sd_var (pv 1))) (sss_one (ss_ret (se_isN (sd_var (pv 0))))) sss_nil)
    (sss_cons (ss_if (sb_t (sd_isi (pe_callB call_isi rfl bt.isinstance b_isinstance (pa_cons (sd_var (pv 1)) (pa_cons (pe_bltn rfl bt.bool b_bool rfl) pa_nil)))) (fun _ => rfl)) (sss_one (ss_ret (SE.of (sd_and (sd_isi (pe_callB call_isi rfl bt.isinstance b_isinstance (pa_cons (sd_var (pv 0)) (pa_cons (pe_bltn rfl bt.bool b_bool rfl) pa_nil)))) (sd_one (SD.of (se_cmp (op_eqD hu64) lk_eq (sd_var (pv 0)) (sd_var (pv 1)) (nomark _)))))))) sss_nil)
    (sss_cons (ss_if (sb_t (sd_isi (pe_callB call_isi rfl bt.isinstance b_isinstance (pa_cons (sd_var (pv 1)) (pa_cons (pe_bltn rfl bt.int b_int rfl) pa_nil)))) (fun _ => rfl)) (sss_one (ss_ret (SE.of (sd_and (sd_isi (pe_callB call_isi rfl bt.isinstance b_isinstance (pa_cons (sd_var (pv 0)) (pa_cons (pe_bltn rfl bt.int b_int rfl) pa_nil)))) (sd_and (SD.of (se_not (sd_isi (pe_callB call_isi rfl bt.isinstance b_isinstance (pa_cons (sd_var (pv 0)) (pa_cons (pe_bltn rfl bt.bool b_bool rfl) pa_nil)))))) (sd_one (SD.of (se_cmp (op_eqD hu64) lk_eq (sd_var (pv 0)) (sd_var (pv 1)) (nomark _))))))))) sss_nil)
    (sss_cons (ss_if (sb_t (sd_isi (pe_callB call_isi rfl bt.isinstance b_isinstance (pa_cons (sd_var (pv 1)) (pa_cons (pe_bltn rfl bt.str b_str rfl) pa_nil)))) (fun _ => rfl)) (sss_one (ss_ret (SE.of (sd_and (sd_isi (pe_callB call_isi rfl bt.isinstance b_isinstance (pa_cons (sd_var (pv 0)) (pa_cons (pe_bltn rfl bt.str b_str rfl) pa_nil)))) (sd_one (SD.of (se_cmp (op_eqD hu64) lk_eq (sd_var (pv 0)) (sd_var (pv 1)) (nomark _)))))))) sss_nil)
    (sss_cons (ss_if (sb_t (sd_isi (pe_callB call_isi rfl bt.isinstance b_isinstance (pa_cons (sd_var (pv 1)) (pa_cons (pe_bltn rfl bt.dict b_dict rfl) pa_nil)))) (fun _ => rfl)) (sss_one (ss_ret (SE.of (sd_and (sd_isi (pe_callB call_isi rfl bt.isinstance b_isinstance (pa_cons (sd_var (pv 0)) (pa_cons (pe_bltn rfl bt.dict b_dict rfl) pa_nil)))) (sd_one (SD.of (se_cmp (op_eqD hu64) lk_eq (sd_var (pv 0)) (sd_var (pv 1)) (nomark _)))))))) sss_nil)
    (sss_cons (ss_if (sb_w (sw_or (sb_cmp (op_neD hu64) lk_ne (sd_isi (pe_callB call_isi rfl bt.isinstance b_isinstance (pa_cons (sd_var (pv 1)) (pa_cons (pe_bltn rfl bt.tuple b_tuple rfl) pa_nil)))) (sd_isi (pe_callB call_isi rfl bt.isinstance b_isinstance (pa_cons (sd_var (pv 0)) (pa_cons (pe_bltn rfl bt.tuple b_tuple rfl) pa_nil)))) (nomark _)) (sw_or1 (sb_cmp (op_neD hu64) lk_ne (sd_isi (pe_callB call_isi rfl bt.isinstance b_isinstance (pa_cons (sd_var (pv 1)) (pa_cons (pe_bltn rfl bt.list b_list rfl) pa_nil)))) (sd_isi (pe_callB call_isi rfl bt.isinstance b_isinstance (pa_cons (sd_var (pv 0)) (pa_cons (pe_bltn rfl bt.list b_list rfl) pa_nil)))) (nomark _))))) (sss_one (ss_ret (SE.of sd_bl))) sss_nil)
    (sss_one (ss_ret (SE.of (sd_and (SD.of (se_cmp (op_eqD hu64) lk_eq (SD.of (se_b (pe_callB cr_len rfl bt.len b_len (sa_cons (sd_var (pv 0)) sa_nil rfl)) lk_len)) (SD.of (se_b (pe_callB cr_len rfl bt.len b_len (sa_cons (sd_var (pv 1)) sa_nil rfl)) lk_len)) (nomark _))) (sd_one (SD.of (se_b (pe_callB (cr_all rfl) rfl bt.all b_all (sa_cons (SD.of (se_lc (own := [(("k" : Str), 2)]) rfl N (si_r1 (pi_range1 rfl bt.range (sa_cons (SD.of (se_b (pe_callB cr_len rfl bt.len b_len (sa_cons (sd_var (pv 1)) sa_nil rfl)) lk_len)) sa_nil rfl))) (blkOk_by (by rfl)) (fun _ _ _ _ _ => by exact (sgw_name (pg_name (i := 2) N rfl (by first | exact Or.inl rfl | exact Or.inr rfl)) (by decide))) (fun _ _ _ _ _ => by exact sts_nil) (fun _ _ _ _ _ => by exact (SD.of (se_callN rfl G__law_same hr (by rfl) D__law_same.m D__law_same.F.kp D__law_same.b tk0 (sa_cons (SD.of (se_ix hu1 (sd_var (pv 0)) (sd_var (pv 2)) (fun _ _ => rfl))) (sa_cons (SD.of (se_ix hu1 (sd_var (pv 1)) (sd_var (pv 2)) (fun _ _ => rfl))) sa_nil rfl) rfl) (by decide) rfl rfl))) (fun _ => rfl))) sa_nil rfl)) lk_all)))))))))))))
abbrev s_law : Stmt := top 33
theorem sc_law : FnScope ["script", "draws", "places", "letters", "alphabet", "hands", "table", "model", "hand", "turn", "due", "k", "kind", "letter", "rows", "row", "bad"] ["script"] (defScope s_law) := ⟨rfl, rfl, rfl, by decide +kernel, rfl, by decide +kernel, by decide +kernel⟩
noncomputable def S_law : ST := (sSeq (sSet 1 (eAl (eCall 2 B__law_draws (aCons (eVar 0) (aCons (eC (.int 300)) aNil)))))
  (sSeq (sA (ed (eCall 3 B__law_alphabet (aCons (eVar 1) (aCons (eC (.int 4)) (aCons (eC (.int 5)) aNil))))) (tTup (tCons (tN 2) (tCons (tN 3) tNil))))
  (sSeq (sSet 4 (ed (eMk 0 3 B_Alphabet___init__ (aCons (eVar 2) (aCons (eVar 3) aNil)))))
  (sSeq (sSet 5 (ed (e2 fAdd (eC (.int 1)) (ed (eCall 2 B__law_take (aCons (eVar 1) (aCons (eC (.int 4)) aNil)))))))
  (sSeq (sSet 6 (ed (eMkK 1 3 B_Table___init__ (aCons (eVar 4) (aCons (eVar 5) aNil)))))
  (sSeq (sSet 7 (eAl (eDisp (pCons (eC (.str "events")) (ed (eLst aNil)) (pCons (eC (.str "rows")) (eAl (eComp (iR1 (aCons (eVar 5) aNil)) (tN 8) bYes (eTup aNil) [8])) (pCons (eC (.str "count")) (eC (.int 0)) pNil))))))
  (sSeq (sFor (iR1 (aCons (ed (e2 fAdd (eC (.int 20)) (ed (eCall 2 B__law_take (aCons (eVar 1) (aCons (eC (.int 25)) aNil)))))) aNil)) (tN 9) (sSeq (sPar3 12 8 13 (aCons (ed (e2 fIx (eTup (aCons (eC (.int 0)) (aCons (eC (.int 0)) (aCons (eC (.int 0)) (aCons (eC (.int 1)) (aCons (eC (.int 1)) (aCons (eC (.int 2)) (aCons (eC (.int 3)) (aCons (eC (.int 2)) aNil))))))))) (ed (eCall 2 B__law_take (aCons (eVar 1) (aCons (eC (.int 8)) aNil)))))) (aCons (ed (e2 fSub (ed (eCall 2 B__law_take (aCons (eVar 1) (aCons (ed (e2 fAdd (eVar 5) (eC (.int 2)))) aNil)))) (eC (.int 1)))) (aCons (ed (eCall 2 B__law_take (aCons (eVar 1) (aCons (ed (eA fLen (aCons (eVar 3) aNil))) aNil)))) aNil))))
  (sSeq (sSet 10 (ed (eCall 6 B__law_due (aCons (eVar 1) (aCons (eVar 3) (aCons (eVar 7) (aCons (eVar 12) (aCons (eVar 8) (aCons (eVar 13) aNil)))))))))
  (sSeq (sIf (bOr (bNot (eT (ed (eCall 2 (B__law_same 8) (aCons (ed (eCallC clE 4 B__law_called (aCons (eVar 6) (aCons (eVar 12) (aCons (eVar 8) (aCons (eVar 13) aNil)))))) (aCons (eVar 10) aNil)))))) (bNot (eT (ed (eCall 2 (B__law_same 8) (aCons (ed (eMeth clN 1 1 B_Table_events (eVar 6) aNil)) (aCons (ed (e2 fIx (eVar 7) (eC (.str "events")))) aNil))))))) (sRet (ev (eC (.bl false)))) sPass)
  (sSeq (sFor (iR1 (aCons (eVar 5) aNil)) (tN 11) (sSeq (sSet 14 (ed (e2 fIx (eVar 7) (eC (.str "rows")))))
  (sIf (bNot (eT (ed (eCall 2 (B__law_same 8) (aCons (ed (eMeth clN 1 2 B_Table_row (eVar 6) (aCons (eVar 11) aNil))) (aCons (ed (e2 fIx (eVar 14) (eVar 11))) aNil)))))) (sRet (ev (eC (.bl false)))) sPass)) [11, 14])
  (sIf (bNot (eT (ed (eCall 3 B_equivalent (aCons (eVar 4) (aCons (ed (eMeth clN 1 1 B_Table_word (eVar 6) aNil)) (aCons (ed (eA fTuple (aCons (ed (eComp (iSeq (ed (e2 fIx (eVar 7) (eC (.str "events"))))) (tN 15) bYes (ed (e2 fIx (eVar 15) (eC (.int 2)))) [15])) aNil))) aNil))))))) (sRet (ev (eC (.bl false)))) sPass))))) [8, 9, 10, 11, 12, 13, 14])
  (sSeq (sFor (iSeq (eTup (aCons (eC (.int 0)) (aCons (eC (.int 5)) (aCons (ed (e2 fSub (eC (.int 0)) (eC (.int 1)))) aNil))))) (tN 16) (sIf (eTB (e2 fNe (ed (eLam 1 (tlTold 3 "hand" 2 "ready") (eMkK 1 3 B_Table___init__ (aCons (eVar 4) (aCons (eVar 16) aNil))))) (eC (.str "hand")))) (sRet (ev (eC (.bl false)))) sPass) [16])
  (sSeq (sIf (bNot (eTB (e2 fEq (ed (eLam 1 (tlTold 3 "hand" 2 "ready") (eMeth clN 1 2 B_Table_row (eVar 6) (aCons (eVar 5) aNil)))) (eC (.str "hand"))))) (sRet (ev (eC (.bl false)))) sPass)
  (sRet (e2 fEq (ed (eLam 1 (tlTold 3 "hand" 2 "ready") (eMeth clN 1 2 B_Table_row (eVar 6) (aCons (ed (e2 fSub (eC (.int 0)) (eC (.int 1)))) aNil)))) (eC (.str "hand")))))))))))))
noncomputable def B_law : BD := body 17 S_law
theorem ok_law {f_ c_ P_ : Addr} {od_ an_ : Option Addr} {sl_ : Array (Option Value)} {oc_ kV_ dc_ pm_ ct_ : Value} {f__law_told : Addr} {fd__law_told : FuncData} {f_Table_events : Addr} {fd_Table_events : FuncData} {f_Table_row : Addr} {fd_Table_row : FuncData} {f_Table_word : Addr} {fd_Table_word : FuncData} {f__law_draws : Addr} {fd__law_draws : FuncData} {f__law_alphabet : Addr} {fd__law_alphabet : FuncData} {f__law_take : Addr} {fd__law_take : FuncData} {f__law_due : Addr} {fd__law_due : FuncData} {f__law_same : Addr} {fd__law_same : FuncData} {f__law_called : Addr} {fd__law_called : FuncData} {f_equivalent : Addr} {fd_equivalent : FuncData} {f_Alphabet C_Alphabet_ : Addr} {fd_Alphabet : FuncData} {f_Table C_Table_ : Addr} {fd_Table : FuncData} (l0 : K.lookup f_ = some ⟨oc_, od_, .func (PySem.W.fnOf "law" "law" (defArgs s_law) (defBody s_law) (defScope s_law) .none kV_ dc_ pm_ an_ (.ref c_) ct_), sl_⟩) (c0 : PySem.W.codeIn K (.ref c_) "law" = true) (TB : LamX.TabB base mg c_ P_) (T0 : ca.tb 1 = (P_, (("law" : Str) ++ ".<locals>.") ++ "<lambda>")) (bt : Bt mg) (C_Table : ClF ca K 1 ["_alphabet", "_rows", "_events", "_count"]) (Ex_InvalidHand : ExF K mg ca "InvalidHand" 3) (Ex_NotReady : ExF K mg ca "NotReady" 2) (Ne_NotReady_InvalidHand : PySem.W.exmOne K (.ref (ca.ad 2)) (.ref (ca.ad 3)) = some false) (D__law_told : Dg K mg "_law_told" "_law_told" s__law_told ["call"] f__law_told fd__law_told) (D_Table_events : MtF K ca 1 "events" s_Table_events ["self"] f_Table_events fd_Table_events) (G_Table_events : FnOk P w K mg base (L2.CX P w) 1 f_Table_events fd_Table_events ["self"] (spB ca 1 B_Table_events)) (D_Table_row : MtF K ca 1 "row" s_Table_row ["self", "hand"] f_Table_row fd_Table_row) (G_Table_row : FnOk P w K mg base (L2.CX P w) 2 f_Table_row fd_Table_row ["self", "hand"] (spB ca 2 B_Table_row)) (D_Table_word : MtF K ca 1 "word" s_Table_word ["self"] f_Table_word fd_Table_word) (G_Table_word : FnOk P w K mg base (L2.CX P w) 5 f_Table_word fd_Table_word ["self"] (spB ca 1 B_Table_word)) (D__law_draws : Dg K mg "_law_draws" "_law_draws" s__law_draws ["script", "count"] f__law_draws fd__law_draws) (G__law_draws : FnOk P w K mg base (L2.CX P w) 1 f__law_draws fd__law_draws ["script", "count"] (spB ca 2 B__law_draws)) (D__law_alphabet : Dg K mg "_law_alphabet" "_law_alphabet" s__law_alphabet ["draws", "most_places", "most_letters"] f__law_alphabet fd__law_alphabet) (G__law_alphabet : FnOk P w K mg base (L2.CX P w) 2 f__law_alphabet fd__law_alphabet ["draws", "most_places", "most_letters"] (spB ca 3 B__law_alphabet)) (D__law_take : Dg K mg "_law_take" "_law_take" s__law_take ["draws", "limit"] f__law_take fd__law_take) (G__law_take : FnOk P w K mg base (L2.CX P w) 1 f__law_take fd__law_take ["draws", "limit"] (spB ca 2 B__law_take)) (D__law_due : Dg K mg "_law_due" "_law_due" s__law_due ["draws", "letters", "model", "kind", "hand", "letter"] f__law_due fd__law_due) (G__law_due : FnOk P w K mg base (L2.CX P w) 3 f__law_due fd__law_due ["draws", "letters", "model", "kind", "hand", "letter"] (spB ca 6 B__law_due)) (D__law_same : Dg K mg "_law_same" "_law_same" s__law_same ["found", "due"] f__law_same fd__law_same) (G__law_same : FnOk P w K mg base (L2.CX P w) 9 f__law_same fd__law_same ["found", "due"] (spB ca 2 (B__law_same 8))) (D__law_called : Dg K mg "_law_called" "_law_called" s__law_called ["table", "kind", "hand", "letter"] f__law_called fd__law_called) (G__law_called : FnOk P w K mg base (L2.CX P w) 6 f__law_called fd__law_called ["table", "kind", "hand", "letter"] (spB ca 4 B__law_called)) (D_equivalent : Dg K mg "equivalent" "equivalent" s_equivalent ["alphabet", "first", "second"] f_equivalent fd_equivalent) (G_equivalent : FnOk P w K mg base (L2.CX P w) 2 f_equivalent fd_equivalent ["alphabet", "first", "second"] (spB ca 3 B_equivalent)) (M_Alphabet : Mf K mg ca "Alphabet" 0 ["self", "places", "letters"] C_Alphabet_ f_Alphabet fd_Alphabet) (G_Alphabet : FnOk P w K mg base (L2.CX P w) 2 f_Alphabet fd_Alphabet ["self", "places", "letters"] (spB ca 3 B_Alphabet___init__)) (M_Table : Mf K mg ca "Table" 1 ["self", "alphabet", "hands"] C_Table_ f_Table fd_Table) (G_Table : FnOk P w K mg base (L2.CX P w) 1 f_Table fd_Table ["self", "alphabet", "hands"] (spB ca 3 B_Table___init__)) :
    FnOk P w K mg base (L2.CX P w) 10 f_ (PySem.W.fnOf "law" "law" (defArgs s_law) (defBody s_law) (defScope s_law) .none kV_ dc_ pm_ an_ (.ref c_) ct_) ["script"] (spB ca 1 B_law) := by
  have N : (["script", "draws", "places", "letters", "alphabet", "hands", "table", "model", "hand", "turn", "due", "k", "kind", "letter", "rows", "row", "bad"] : List Str).Nodup := sc_law.nd
  refine def_okL l0 c0 sc_law fun A outer s H E hr => ?_
  have hu65 : (cxOf (L2.CX P w) P w K mg base ["script", "draws", "places", "letters", "alphabet", "hands", "table", "model", "hand", "turn", "due", "k", "kind", "letter", "rows", "row", "bad"] "law" (defScope s_law) f_ (.ref c_) A outer s H E).A.units + 65 < cLine := by have := hr.un; show (A.deeper _).units + 65 < cLine; omega
  have hu64 : (cxOf (L2.CX P w) P w K mg base ["script", "draws", "places", "letters", "alphabet", "hands", "table", "model", "hand", "turn", "due", "k", "kind", "letter", "rows", "row", "bad"] "law" (defScope s_law) f_ (.ref c_) A outer s H E).A.units + 64 < cLine := by omega
  have hu1 : (cxOf (L2.CX P w) P w K mg base ["script", "draws", "places", "letters", "alphabet", "hands", "table", "model", "hand", "turn", "due", "k", "kind", "letter", "rows", "row", "bad"] "law" (defScope s_law) f_ (.ref c_) A outer s H E).A.units + 1 < cLine := by omega
  have tk : Takes (cxOf (L2.CX P w) P w K mg base ["script", "draws", "places", "letters", "alphabet", "hands", "table", "model", "hand", "turn", "due", "k", "kind", "letter", "rows", "row", "bad"] "law" (defScope s_law) f_ (.ref c_) A outer s H E) (fun cls d _ H' => E cls d H') := takes_of rfl rfl rfl rfl
  unfold S_law
  exact (sss_cons (ss_set N rfl (by first | exact Or.inl rfl | exact Or.inr rfl) (sd_al (se_callN rfl G__law_draws (hr.mono (by decide)) (by rfl) D__law_draws.m D__law_draws.F.kp D__law_draws.b tk (sa_cons (sd_var (pv 0)) (sa_cons sd_int sa_nil rfl) rfl) (by decide) rfl rfl)) rfl (by first | exact Or.inl rfl | exact Or.inr rfl))
    (sss_cons (ss_asg (SD.of (se_callN rfl G__law_alphabet (hr.mono (by decide)) (by rfl) D__law_alphabet.m D__law_alphabet.F.kp D__law_alphabet.b tk (sa_cons (sd_var (pv 1)) (sa_cons sd_int (sa_cons sd_int sa_nil rfl) rfl) rfl) (by decide) rfl rfl)) (sg_tup rfl (sgs_cons (sg_name (pg_name (i := 2) N rfl (by first | exact Or.inl rfl | exact Or.inr rfl))) (sgs_cons (sg_name (pg_name (i := 3) N rfl (by first | exact Or.inl rfl | exact Or.inr rfl))) sgs_nil rfl) rfl) (len_cons (len_cons len_nil)) rfl rfl) rfl rfl rfl)
    (sss_cons (ss_set N rfl (by first | exact Or.inl rfl | exact Or.inr rfl) (SD.of (se_mkN (cn := 0) rfl M_Alphabet.ad M_Alphabet.mkk G_Alphabet (hr.mono (by decide)) (by rfl) M_Alphabet.m M_Alphabet.b tk (sa_cons (sd_var (pv 2)) (sa_cons (sd_var (pv 3)) sa_nil rfl) rfl) (by decide) rfl rfl)) rfl (by first | exact Or.inl rfl | exact Or.inr rfl))
    (sss_cons (ss_set N rfl (by first | exact Or.inl rfl | exact Or.inr rfl) (SD.of (se_op op_addA lk_add sd_int (SD.of (se_callN rfl G__law_take (hr.mono (by decide)) (by rfl) D__law_take.m D__law_take.F.kp D__law_take.b tk (sa_cons (sd_var (pv 1)) (sa_cons sd_int sa_nil rfl) rfl) (by decide) rfl rfl)))) rfl (by first | exact Or.inl rfl | exact Or.inr rfl))
    (sss_cons (ss_set N rfl (by first | exact Or.inl rfl | exact Or.inr rfl) (SD.of (se_mkK (cn := 1) rfl M_Table.ad M_Table.mkk G_Table (hr.mono (by decide)) (by rfl) M_Table.m M_Table.b tk (sa_cons (sd_var (pv 4)) (sa_cons (sd_var (pv 5)) sa_nil rfl) rfl) (by decide) rfl rfl)) rfl (by first | exact Or.inl rfl | exact Or.inr rfl))
    (sss_cons (ss_set N rfl (by first | exact Or.inl rfl | exact Or.inr rfl) (sd_al (se_disp (pe_disp (pps_cons sd_str (SD.of (se_lst sa_nil)) (pps_cons sd_str (sd_al (se_lc (own := [(("hand" : Str), 8)]) rfl N (si_r1 (pi_range1 rfl bt.range (sa_cons (sd_var (pv 5)) sa_nil rfl))) (blkOk_by (by rfl)) (fun _ _ _ _ _ => by exact (sgw_name (pg_name (i := 8) N rfl (by first | exact Or.inl rfl | exact Or.inr rfl)) (by decide))) (fun _ _ _ _ _ => by exact sts_nil) (fun _ _ _ _ _ => by exact (sd_tup sa_nil)) (fun _ => rfl))) (pps_cons sd_str sd_int pps_nil))) (by rfl) (by rfl) (fun z => by cases z) (by decide)) (pp_cons (pp_cons (pp_cons pp_nil))))) rfl (by first | exact Or.inl rfl | exact Or.inr rfl))
    (sss_cons (ss_for [8, 9, 10, 11, 12, 13, 14] (passes_of rfl) rfl (si_r1 (pi_range1 rfl bt.range (sa_cons (SD.of (se_op op_addA lk_add sd_int (SD.of (se_callN rfl G__law_take (hr.mono (by decide)) (by rfl) D__law_take.m D__law_take.F.kp D__law_take.b tk (sa_cons (sd_var (pv 1)) (sa_cons sd_int sa_nil rfl) rfl) (by decide) rfl rfl)))) sa_nil rfl))) (sg_name (pg_name (i := 9) N rfl (by first | exact Or.inl rfl | exact Or.inr rfl))) (sss_cons (ss_par3 (i := 12) (j := 8) (l := 13) rfl N rfl rfl rfl (by decide) (by decide) (by decide) rfl rfl rfl (sa_cons (SD.of (se_ix hu1 (sd_tup (sa_cons sd_int (sa_cons sd_int (sa_cons sd_int (sa_cons sd_int (sa_cons sd_int (sa_cons sd_int (sa_cons sd_int (sa_cons sd_int sa_nil rfl) rfl) rfl) rfl) rfl) rfl) rfl) rfl)) (SD.of (se_callN rfl G__law_take (hr.mono (by decide)) (by rfl) D__law_take.m D__law_take.F.kp D__law_take.b tk (sa_cons (sd_var (pv 1)) (sa_cons sd_int sa_nil rfl) rfl) (by decide) rfl rfl)) (fun _ _ => rfl))) (sa_cons (SD.of (se_op op_sub lk_sub (SD.of (se_callN rfl G__law_take (hr.mono (by decide)) (by rfl) D__law_take.m D__law_take.F.kp D__law_take.b tk (sa_cons (sd_var (pv 1)) (sa_cons (SD.of (se_op op_addA lk_add (sd_var (pv 5)) sd_int)) sa_nil rfl) rfl) (by decide) rfl rfl)) sd_int)) (sa_cons (SD.of (se_callN rfl G__law_take (hr.mono (by decide)) (by rfl) D__law_take.m D__law_take.F.kp D__law_take.b tk (sa_cons (sd_var (pv 1)) (sa_cons (SD.of (se_b (pe_callB cr_len rfl bt.len b_len (sa_cons (sd_var (pv 3)) sa_nil rfl)) lk_len)) sa_nil rfl) rfl) (by decide) rfl rfl)) sa_nil rfl) rfl) rfl) (by rfl) rfl)
    (sss_cons (ss_set N rfl (by first | exact Or.inl rfl | exact Or.inr rfl) (SD.of (se_callN rfl G__law_due (hr.mono (by decide)) (by rfl) D__law_due.m D__law_due.F.kp D__law_due.b tk (sa_cons (sd_var (pv 1)) (sa_cons (sd_var (pv 3)) (sa_cons (sd_var (pv 7)) (sa_cons (sd_var (pv 12)) (sa_cons (sd_var (pv 8)) (sa_cons (sd_var (pv 13)) sa_nil rfl) rfl) rfl) rfl) rfl) rfl) (by decide) rfl rfl)) rfl (by first | exact Or.inl rfl | exact Or.inr rfl))
    (sss_cons (ss_if (sb_w (sw_or (sb_not (sb_t (SD.of (se_callN rfl G__law_same (hr.mono (by decide)) (by rfl) D__law_same.m D__law_same.F.kp D__law_same.b tk (sa_cons (SD.of (se_callC clE_ok rfl G__law_called (hr.mono (by decide)) (by rfl) D__law_called.m D__law_called.F.kp D__law_called.b tk (sa_cons (sd_var (pv 6)) (sa_cons (sd_var (pv 12)) (sa_cons (sd_var (pv 8)) (sa_cons (sd_var (pv 13)) sa_nil rfl) rfl) rfl) rfl) (by decide) rfl rfl)) (sa_cons (sd_var (pv 10)) sa_nil rfl) rfl) (by decide) rfl rfl)) (fun _ => rfl))) (sw_or1 (sb_not (sb_t (SD.of (se_callN rfl G__law_same (hr.mono (by decide)) (by rfl) D__law_same.m D__law_same.F.kp D__law_same.b tk (sa_cons (SD.of (se_meth0 clN_ok (cn := 1) rfl C_Table.cl D_Table_events G_Table_events (hr.mono (by decide)) tk (sd_var (pv 6)) rfl)) (sa_cons (SD.of (se_ix hu1 (sd_var (pv 7)) sd_str (fun _ _ => rfl))) sa_nil rfl) rfl) (by decide) rfl rfl)) (fun _ => rfl)))))) (sss_one (ss_ret (SE.of sd_bl))) sss_nil)
    (sss_cons (ss_for [11, 14] (passes_of rfl) rfl (si_r1 (pi_range1 rfl bt.range (sa_cons (sd_var (pv 5)) sa_nil rfl))) (sg_name (pg_name (i := 11) N rfl (by first | exact Or.inl rfl | exact Or.inr rfl))) (sss_cons (ss_set N rfl (by first | exact Or.inl rfl | exact Or.inr rfl) (SD.of (se_ix hu1 (sd_var (pv 7)) sd_str (fun _ _ => rfl))) rfl (by first | exact Or.inl rfl | exact Or.inr rfl))
    (sss_one (ss_if (sb_not (sb_t (SD.of (se_callN rfl G__law_same (hr.mono (by decide)) (by rfl) D__law_same.m D__law_same.F.kp D__law_same.b tk (sa_cons (SD.of (se_meth clN_ok (cn := 1) rfl C_Table.cl D_Table_row G_Table_row (hr.mono (by decide)) tk (sd_var (pv 6)) (sa_cons (sd_var (pv 11)) sa_nil rfl) rfl rfl rfl)) (sa_cons (SD.of (se_ix hu1 (sd_var (pv 14)) (sd_var (pv 11)) (fun _ _ => rfl))) sa_nil rfl) rfl) (by decide) rfl rfl)) (fun _ => rfl))) (sss_one (ss_ret (SE.of sd_bl))) sss_nil))) (fun _ => rfl))
    (sss_one (ss_if (sb_not (sb_t (SD.of (se_callN rfl G_equivalent (hr.mono (by decide)) (by rfl) D_equivalent.m D_equivalent.F.kp D_equivalent.b tk (sa_cons (sd_var (pv 4)) (sa_cons (SD.of (se_meth0 clN_ok (cn := 1) rfl C_Table.cl D_Table_word G_Table_word (hr.mono (by decide)) tk (sd_var (pv 6)) rfl)) (sa_cons (SD.of (se_b (pe_callTy call_tuple_of rfl bt.tuple b_tuple (sa_cons (SD.of (se_lc (own := [(("row" : Str), 15)]) rfl N (si_seq (SD.of (se_ix hu1 (sd_var (pv 7)) sd_str (fun _ _ => rfl)))) (blkOk_by (by rfl)) (fun _ _ _ _ _ => by exact (sgw_name (pg_name (i := 15) N rfl (by first | exact Or.inl rfl | exact Or.inr rfl)) (by decide))) (fun _ _ _ _ _ => by exact sts_nil) (fun _ _ _ _ _ => by exact (SD.of (se_ix hu1 (sd_var (pv 15)) sd_int (fun _ _ => rfl)))) (fun _ => rfl))) sa_nil rfl)) lk_tuple)) sa_nil rfl) rfl) rfl) (by decide) rfl rfl)) (fun _ => rfl))) (sss_one (ss_ret (SE.of sd_bl))) sss_nil)))))) (fun _ => rfl))
    (sss_cons (ss_for [16] (passes_of rfl) rfl (si_seq (sd_tup (sa_cons sd_int (sa_cons sd_int (sa_cons (SD.of (se_op op_sub lk_sub sd_int sd_int)) sa_nil rfl) rfl) rfl))) (sg_name (pg_name (i := 16) N rfl (by first | exact Or.inl rfl | exact Or.inr rfl))) (sss_one (ss_if (sb_cmp (op_neD hu64) lk_ne (SD.of (se_lam (k := 2) (j := 1) rfl (gets__law_told D__law_told Ex_InvalidHand Ex_NotReady) (tells_told Ex_InvalidHand.em Ex_NotReady.em Ne_NotReady_InvalidHand) TB rfl rfl T0 (hr.mono (by decide)) rfl rfl (fun _ _ _ _ _ => rfl) (fun _ _ _ _ _ _ _ hr => by exact (se_mkK (cn := 1) rfl M_Table.ad M_Table.mkk G_Table (hr.mono (by decide)) (by rfl) M_Table.m M_Table.b (takes_of rfl rfl rfl rfl) (sa_cons (sd_var (pv 4)) (sa_cons (sd_var (pv 16)) sa_nil rfl) rfl) (by decide) rfl rfl)) rfl rfl rfl)) sd_str (nomark _)) (sss_one (ss_ret (SE.of sd_bl))) sss_nil)) (fun _ => rfl))
    (sss_cons (ss_if (sb_not (sb_cmp (op_eqD hu64) lk_eq (SD.of (se_lam (k := 2) (j := 1) rfl (gets__law_told D__law_told Ex_InvalidHand Ex_NotReady) (tells_told Ex_InvalidHand.em Ex_NotReady.em Ne_NotReady_InvalidHand) TB rfl rfl T0 (hr.mono (by decide)) rfl rfl (fun _ _ _ _ _ => rfl) (fun _ _ _ _ _ _ _ hr => by exact (se_meth clN_ok (cn := 1) rfl C_Table.cl D_Table_row G_Table_row (hr.mono (by decide)) (takes_of rfl rfl rfl rfl) (sd_var (pv 6)) (sa_cons (sd_var (pv 5)) sa_nil rfl) rfl rfl rfl)) rfl rfl rfl)) sd_str (nomark _))) (sss_one (ss_ret (SE.of sd_bl))) sss_nil)
    (sss_one (ss_ret (se_cmp (op_eqD hu64) lk_eq (SD.of (se_lam (k := 2) (j := 1) rfl (gets__law_told D__law_told Ex_InvalidHand Ex_NotReady) (tells_told Ex_InvalidHand.em Ex_NotReady.em Ne_NotReady_InvalidHand) TB rfl rfl T0 (hr.mono (by decide)) rfl rfl (fun _ _ _ _ _ => rfl) (fun _ _ _ _ _ _ _ hr => by exact (se_meth clN_ok (cn := 1) rfl C_Table.cl D_Table_row G_Table_row (hr.mono (by decide)) (takes_of rfl rfl rfl rfl) (sd_var (pv 6)) (sa_cons (SD.of (se_op op_sub lk_sub sd_int sd_int)) sa_nil rfl) rfl rfl rfl)) rfl rfl rfl)) sd_str (nomark _)))))))))))))
end
def cls : List (Str × List Str) := [("Alphabet", ["places", "letters"]), ("Table", ["_alphabet", "_rows", "_events", "_count"]), ("NotReady", []), ("InvalidHand", [])]
def tbs : List (Str × Str) := [("_law_called", (("_law_called" : Str) ++ ".<locals>.") ++ "<lambda>"), ("law", (("law" : Str) ++ ".<locals>.") ++ "<lambda>")]
theorem all_mk {l : PySem.W.OpenLaw} {w : World} {K : PySem.W.Frag} {h : Heap} {mg : Str → Option Value} {fa : Addr} {A_Alphabet : Addr} {A_Table : Addr} {A_InvalidHand : Addr} {A_NotReady : Addr} {c__law_called P__law_called : Addr} {oq__law_called : Value} {dq__law_called : Option Addr} {vq__law_called : Array Value} {sq__law_called : Array (Option Value)} {c_law P_law : Addr} {oq_law : Value} {dq_law : Option Addr} {vq_law : Array Value} {sq_law : Array (Option Value)} {E_fits : Addr} {od_fits an_fits : Option Addr} {sl_fits : Array (Option Value)} {oc_fits kV_fits dc_fits pm_fits ct_fits : Value} {cd_fits : Value} {E_independent : Addr} {od_independent an_independent : Option Addr} {sl_independent : Array (Option Value)} {oc_independent kV_independent dc_independent pm_independent ct_independent : Value} {cd_independent : Value} {E_Table___init__ : Addr} {od_Table___init__ an_Table___init__ : Option Addr} {sl_Table___init__ : Array (Option Value)} {oc_Table___init__ kV_Table___init__ dc_Table___init__ pm_Table___init__ ct_Table___init__ : Value} {cd_Table___init__ : Value} {E_Table__check : Addr} {od_Table__check an_Table__check : Option Addr} {sl_Table__check : Array (Option Value)} {oc_Table__check kV_Table__check dc_Table__check pm_Table__check ct_Table__check : Value} {cd_Table__check : Value} {E_Table__add : Addr} {od_Table__add an_Table__add : Option Addr} {sl_Table__add : Array (Option Value)} {oc_Table__add kV_Table__add dc_Table__add pm_Table__add ct_Table__add : Value} {cd_Table__add : Value} {E_Table__newest : Addr} {od_Table__newest an_Table__newest : Option Addr} {sl_Table__newest : Array (Option Value)} {oc_Table__newest kV_Table__newest dc_Table__newest pm_Table__newest ct_Table__newest : Value} {cd_Table__newest : Value} {E_Table__take_back : Addr} {od_Table__take_back an_Table__take_back : Option Addr} {sl_Table__take_back : Array (Option Value)} {oc_Table__take_back kV_Table__take_back dc_Table__take_back pm_Table__take_back ct_Table__take_back : Value} {cd_Table__take_back : Value} {E_Table_events : Addr} {od_Table_events an_Table_events : Option Addr} {sl_Table_events : Array (Option Value)} {oc_Table_events kV_Table_events dc_Table_events pm_Table_events ct_Table_events : Value} {cd_Table_events : Value} {E_place_word : Addr} {od_place_word an_place_word : Option Addr} {sl_place_word : Array (Option Value)} {oc_place_word kV_place_word dc_place_word pm_place_word ct_place_word : Value} {cd_place_word : Value} {E__law_draws : Addr} {od__law_draws an__law_draws : Option Addr} {sl__law_draws : Array (Option Value)} {oc__law_draws kV__law_draws dc__law_draws pm__law_draws ct__law_draws : Value} {cd__law_draws : Value} {E__law_take : Addr} {od__law_take an__law_take : Option Addr} {sl__law_take : Array (Option Value)} {oc__law_take kV__law_take dc__law_take pm__law_take ct__law_take : Value} {cd__law_take : Value} {E__law_meet : Addr} {od__law_meet an__law_meet : Option Addr} {sl__law_meet : Array (Option Value)} {oc__law_meet kV__law_meet dc__law_meet pm__law_meet ct__law_meet : Value} {cd__law_meet : Value} {E__law_take_back : Addr} {od__law_take_back an__law_take_back : Option Addr} {sl__law_take_back : Array (Option Value)} {oc__law_take_back kV__law_take_back dc__law_take_back pm__law_take_back ct__law_take_back : Value} {cd__law_take_back : Value} {E__law_add : Addr} {od__law_add an__law_add : Option Addr} {sl__law_add : Array (Option Value)} {oc__law_add kV__law_add dc__law_add pm__law_add ct__law_add : Value} {cd__law_add : Value} {E_Alphabet___init__ : Addr} {od_Alphabet___init__ an_Alphabet___init__ : Option Addr} {sl_Alphabet___init__ : Array (Option Value)} {oc_Alphabet___init__ kV_Alphabet___init__ dc_Alphabet___init__ pm_Alphabet___init__ ct_Alphabet___init__ : Value} {cd_Alphabet___init__ : Value} {E_masks : Addr} {od_masks an_masks : Option Addr} {sl_masks : Array (Option Value)} {oc_masks kV_masks dc_masks pm_masks ct_masks : Value} {cd_masks : Value} {E_Table__resting : Addr} {od_Table__resting an_Table__resting : Option Addr} {sl_Table__resting : Array (Option Value)} {oc_Table__resting kV_Table__resting dc_Table__resting pm_Table__resting ct_Table__resting : Value} {cd_Table__resting : Value} {E_Table_do : Addr} {od_Table_do an_Table_do : Option Addr} {sl_Table_do : Array (Option Value)} {oc_Table_do kV_Table_do dc_Table_do pm_Table_do ct_Table_do : Value} {cd_Table_do : Value} {E_Table_do_again : Addr} {od_Table_do_again an_Table_do_again : Option Addr} {sl_Table_do_again : Array (Option Value)} {oc_Table_do_again kV_Table_do_again dc_Table_do_again pm_Table_do_again ct_Table_do_again : Value} {cd_Table_do_again : Value} {E_Table_row : Addr} {od_Table_row an_Table_row : Option Addr} {sl_Table_row : Array (Option Value)} {oc_Table_row kV_Table_row dc_Table_row pm_Table_row ct_Table_row : Value} {cd_Table_row : Value} {E_equivalent : Addr} {od_equivalent an_equivalent : Option Addr} {sl_equivalent : Array (Option Value)} {oc_equivalent kV_equivalent dc_equivalent pm_equivalent ct_equivalent : Value} {cd_equivalent : Value} {E__law_alphabet : Addr} {od__law_alphabet an__law_alphabet : Option Addr} {sl__law_alphabet : Array (Option Value)} {oc__law_alphabet kV__law_alphabet dc__law_alphabet pm__law_alphabet ct__law_alphabet : Value} {cd__law_alphabet : Value} {E__law_resting : Addr} {od__law_resting an__law_resting : Option Addr} {sl__law_resting : Array (Option Value)} {oc__law_resting kV__law_resting dc__law_resting pm__law_resting ct__law_resting : Value} {cd__law_resting : Value} {E_first_letters : Addr} {od_first_letters an_first_letters : Option Addr} {sl_first_letters : Array (Option Value)} {oc_first_letters kV_first_letters dc_first_letters pm_first_letters ct_first_letters : Value} {cd_first_letters : Value} {E_Table_undo : Addr} {od_Table_undo an_Table_undo : Option Addr} {sl_Table_undo : Array (Option Value)} {oc_Table_undo kV_Table_undo dc_Table_undo pm_Table_undo ct_Table_undo : Value} {cd_Table_undo : Value} {E_Table_undo_with_all : Addr} {od_Table_undo_with_all an_Table_undo_with_all : Option Addr} {sl_Table_undo_with_all : Array (Option Value)} {oc_Table_undo_with_all kV_Table_undo_with_all dc_Table_undo_with_all pm_Table_undo_with_all ct_Table_undo_with_all : Value} {cd_Table_undo_with_all : Value} {E__law_due : Addr} {od__law_due an__law_due : Option Addr} {sl__law_due : Array (Option Value)} {oc__law_due kV__law_due dc__law_due pm__law_due ct__law_due : Value} {cd__law_due : Value} {E_least_form : Addr} {od_least_form an_least_form : Option Addr} {sl_least_form : Array (Option Value)} {oc_least_form kV_least_form dc_least_form pm_least_form ct_least_form : Value} {cd_least_form : Value} {E_Table_word : Addr} {od_Table_word an_Table_word : Option Addr} {sl_Table_word : Array (Option Value)} {oc_Table_word kV_Table_word dc_Table_word pm_Table_word ct_Table_word : Value} {cd_Table_word : Value} {E__law_called : Addr} {od__law_called an__law_called : Option Addr} {sl__law_called : Array (Option Value)} {oc__law_called kV__law_called dc__law_called pm__law_called ct__law_called : Value} {E__law_same : Addr} {od__law_same an__law_same : Option Addr} {sl__law_same : Array (Option Value)} {oc__law_same kV__law_same dc__law_same pm__law_same ct__law_same : Value} {cd__law_same : Value} {E_law : Addr} {od_law an_law : Option Addr} {sl_law : Array (Option Value)} {oc_law kV_law dc_law pm_law ct_law : Value} {E__law_told : Addr} {od__law_told an__law_told : Option Addr} {sl__law_told : Array (Option Value)} {oc__law_told kV__law_told dc__law_told pm__law_told ct__law_told : Value} {cd__law_told : Value} {t_MOST_HANDS : Tok} {t_MOST_LETTERS : Tok} {t_MOST_PLACES : Tok} (X : K.In h) (G : h.Ns mainGlobals mg) (hfa : mg "law" = some (.ref fa))
    (aC_Alphabet : PySem.W.nsIn K mainGlobals "Alphabet" = some (some (.ref A_Alphabet)))
    (pg_Alphabet : PySem.W.plainGet K A_Alphabet Str.empty = true)
    (hd_Alphabet : PySem.W.hasDictIn K A_Alphabet = true)
    (po_Alphabet : PySem.W.plainOver K A_Alphabet = true)
    (sa_Alphabet : PySem.W.findIn K (.ref A_Alphabet) "__setattr__" = some (some (.builtin "object.__setattr__")))
    (mk_Alphabet : PySem.W.makesIn K A_Alphabet = true)
    (kc_Alphabet : PySem.W.keepIn K (.ref A_Alphabet) = true)
    (na_Alphabet_places : PySem.W.findIn K (.ref A_Alphabet) "places" = some none)
    (na_Alphabet_letters : PySem.W.findIn K (.ref A_Alphabet) "letters" = some none)
    (aC_Table : PySem.W.nsIn K mainGlobals "Table" = some (some (.ref A_Table)))
    (pg_Table : PySem.W.plainGet K A_Table Str.empty = true)
    (hd_Table : PySem.W.hasDictIn K A_Table = true)
    (po_Table : PySem.W.plainOver K A_Table = true)
    (sa_Table : PySem.W.findIn K (.ref A_Table) "__setattr__" = some (some (.builtin "object.__setattr__")))
    (mk_Table : PySem.W.makesIn K A_Table = true)
    (kc_Table : PySem.W.keepIn K (.ref A_Table) = true)
    (na_Table__alphabet : PySem.W.findIn K (.ref A_Table) "_alphabet" = some none)
    (na_Table__rows : PySem.W.findIn K (.ref A_Table) "_rows" = some none)
    (na_Table__events : PySem.W.findIn K (.ref A_Table) "_events" = some none)
    (na_Table__count : PySem.W.findIn K (.ref A_Table) "_count" = some none)
    (aC_InvalidHand : PySem.W.nsIn K mainGlobals "InvalidHand" = some (some (.ref A_InvalidHand)))
    (ex_InvalidHand : PySem.W.excIn K A_InvalidHand [.type "ValueError", .type "Exception", .type "BaseException", .type "object"] "ValueError.__new__" = true)
    (kc_InvalidHand : PySem.W.keepIn K (.ref A_InvalidHand) = true)
    (sb_InvalidHand : PySem.W.subIn K (.ref A_InvalidHand) (.type "BaseException") = some true)
    (ty_InvalidHand : PySem.W.typeIn K (.ref A_InvalidHand) = some (.type "type"))
    (ic_InvalidHand : PySem.W.isClsIn K A_InvalidHand = true)
    (sc_InvalidHand : PySem.W.subIn K (.ref A_InvalidHand) (.ref A_InvalidHand) = some true)
    (aC_NotReady : PySem.W.nsIn K mainGlobals "NotReady" = some (some (.ref A_NotReady)))
    (ex_NotReady : PySem.W.excIn K A_NotReady [.type "ValueError", .type "Exception", .type "BaseException", .type "object"] "ValueError.__new__" = true)
    (kc_NotReady : PySem.W.keepIn K (.ref A_NotReady) = true)
    (sb_NotReady : PySem.W.subIn K (.ref A_NotReady) (.type "BaseException") = some true)
    (ty_NotReady : PySem.W.typeIn K (.ref A_NotReady) = some (.type "type"))
    (ic_NotReady : PySem.W.isClsIn K A_NotReady = true)
    (sc_NotReady : PySem.W.subIn K (.ref A_NotReady) (.ref A_NotReady) = some true)
    (sc_NotReady_InvalidHand : PySem.W.subIn K (.ref A_NotReady) (.ref A_InvalidHand) = some false)
    (a_fits : PySem.W.nsIn K mainGlobals "fits" = some (some (.ref E_fits)))
    (l_fits : K.lookup E_fits = some ⟨oc_fits, od_fits, .func (PySem.W.fnOf "fits" "fits" (defArgs s_fits) (defBody s_fits) (defScope s_fits) .none kV_fits dc_fits pm_fits an_fits cd_fits ct_fits), sl_fits⟩)
    (cc_fits : PySem.W.codeIn K cd_fits "fits" = true)
    (k_fits : PySem.W.keepIn K (.ref E_fits) = true)
    (a_independent : PySem.W.nsIn K mainGlobals "independent" = some (some (.ref E_independent)))
    (l_independent : K.lookup E_independent = some ⟨oc_independent, od_independent, .func (PySem.W.fnOf "independent" "independent" (defArgs s_independent) (defBody s_independent) (defScope s_independent) .none kV_independent dc_independent pm_independent an_independent cd_independent ct_independent), sl_independent⟩)
    (cc_independent : PySem.W.codeIn K cd_independent "independent" = true)
    (k_independent : PySem.W.keepIn K (.ref E_independent) = true)
    (a_Table___init__ : PySem.W.findIn K (.ref A_Table) "__init__" = some (some (.ref E_Table___init__)))
    (i_Table___init__ : PySem.W.isFn K (.ref E_Table___init__) = true)
    (l_Table___init__ : K.lookup E_Table___init__ = some ⟨oc_Table___init__, od_Table___init__, .func (PySem.W.fnOf "__init__" "Table.__init__" (defArgs s_Table___init__) (defBody s_Table___init__) (defScope s_Table___init__) .none kV_Table___init__ dc_Table___init__ pm_Table___init__ an_Table___init__ cd_Table___init__ ct_Table___init__), sl_Table___init__⟩)
    (cc_Table___init__ : PySem.W.codeIn K cd_Table___init__ "Table.__init__" = true)
    (k_Table___init__ : PySem.W.keepIn K (.ref E_Table___init__) = true)
    (a_Table__check : PySem.W.findIn K (.ref A_Table) "_check" = some (some (.ref E_Table__check)))
    (i_Table__check : PySem.W.isFn K (.ref E_Table__check) = true)
    (l_Table__check : K.lookup E_Table__check = some ⟨oc_Table__check, od_Table__check, .func (PySem.W.fnOf "_check" "Table._check" (defArgs s_Table__check) (defBody s_Table__check) (defScope s_Table__check) .none kV_Table__check dc_Table__check pm_Table__check an_Table__check cd_Table__check ct_Table__check), sl_Table__check⟩)
    (cc_Table__check : PySem.W.codeIn K cd_Table__check "Table._check" = true)
    (k_Table__check : PySem.W.keepIn K (.ref E_Table__check) = true)
    (a_Table__add : PySem.W.findIn K (.ref A_Table) "_add" = some (some (.ref E_Table__add)))
    (i_Table__add : PySem.W.isFn K (.ref E_Table__add) = true)
    (l_Table__add : K.lookup E_Table__add = some ⟨oc_Table__add, od_Table__add, .func (PySem.W.fnOf "_add" "Table._add" (defArgs s_Table__add) (defBody s_Table__add) (defScope s_Table__add) .none kV_Table__add dc_Table__add pm_Table__add an_Table__add cd_Table__add ct_Table__add), sl_Table__add⟩)
    (cc_Table__add : PySem.W.codeIn K cd_Table__add "Table._add" = true)
    (k_Table__add : PySem.W.keepIn K (.ref E_Table__add) = true)
    (a_Table__newest : PySem.W.findIn K (.ref A_Table) "_newest" = some (some (.ref E_Table__newest)))
    (i_Table__newest : PySem.W.isFn K (.ref E_Table__newest) = true)
    (l_Table__newest : K.lookup E_Table__newest = some ⟨oc_Table__newest, od_Table__newest, .func (PySem.W.fnOf "_newest" "Table._newest" (defArgs s_Table__newest) (defBody s_Table__newest) (defScope s_Table__newest) .none kV_Table__newest dc_Table__newest pm_Table__newest an_Table__newest cd_Table__newest ct_Table__newest), sl_Table__newest⟩)
    (cc_Table__newest : PySem.W.codeIn K cd_Table__newest "Table._newest" = true)
    (k_Table__newest : PySem.W.keepIn K (.ref E_Table__newest) = true)
    (a_Table__take_back : PySem.W.findIn K (.ref A_Table) "_take_back" = some (some (.ref E_Table__take_back)))
    (i_Table__take_back : PySem.W.isFn K (.ref E_Table__take_back) = true)
    (l_Table__take_back : K.lookup E_Table__take_back = some ⟨oc_Table__take_back, od_Table__take_back, .func (PySem.W.fnOf "_take_back" "Table._take_back" (defArgs s_Table__take_back) (defBody s_Table__take_back) (defScope s_Table__take_back) .none kV_Table__take_back dc_Table__take_back pm_Table__take_back an_Table__take_back cd_Table__take_back ct_Table__take_back), sl_Table__take_back⟩)
    (cc_Table__take_back : PySem.W.codeIn K cd_Table__take_back "Table._take_back" = true)
    (k_Table__take_back : PySem.W.keepIn K (.ref E_Table__take_back) = true)
    (a_Table_events : PySem.W.findIn K (.ref A_Table) "events" = some (some (.ref E_Table_events)))
    (i_Table_events : PySem.W.isFn K (.ref E_Table_events) = true)
    (l_Table_events : K.lookup E_Table_events = some ⟨oc_Table_events, od_Table_events, .func (PySem.W.fnOf "events" "Table.events" (defArgs s_Table_events) (defBody s_Table_events) (defScope s_Table_events) .none kV_Table_events dc_Table_events pm_Table_events an_Table_events cd_Table_events ct_Table_events), sl_Table_events⟩)
    (cc_Table_events : PySem.W.codeIn K cd_Table_events "Table.events" = true)
    (k_Table_events : PySem.W.keepIn K (.ref E_Table_events) = true)
    (a_place_word : PySem.W.nsIn K mainGlobals "place_word" = some (some (.ref E_place_word)))
    (l_place_word : K.lookup E_place_word = some ⟨oc_place_word, od_place_word, .func (PySem.W.fnOf "place_word" "place_word" (defArgs s_place_word) (defBody s_place_word) (defScope s_place_word) .none kV_place_word dc_place_word pm_place_word an_place_word cd_place_word ct_place_word), sl_place_word⟩)
    (cc_place_word : PySem.W.codeIn K cd_place_word "place_word" = true)
    (k_place_word : PySem.W.keepIn K (.ref E_place_word) = true)
    (a__law_draws : PySem.W.nsIn K mainGlobals "_law_draws" = some (some (.ref E__law_draws)))
    (l__law_draws : K.lookup E__law_draws = some ⟨oc__law_draws, od__law_draws, .func (PySem.W.fnOf "_law_draws" "_law_draws" (defArgs s__law_draws) (defBody s__law_draws) (defScope s__law_draws) .none kV__law_draws dc__law_draws pm__law_draws an__law_draws cd__law_draws ct__law_draws), sl__law_draws⟩)
    (cc__law_draws : PySem.W.codeIn K cd__law_draws "_law_draws" = true)
    (k__law_draws : PySem.W.keepIn K (.ref E__law_draws) = true)
    (a__law_take : PySem.W.nsIn K mainGlobals "_law_take" = some (some (.ref E__law_take)))
    (l__law_take : K.lookup E__law_take = some ⟨oc__law_take, od__law_take, .func (PySem.W.fnOf "_law_take" "_law_take" (defArgs s__law_take) (defBody s__law_take) (defScope s__law_take) .none kV__law_take dc__law_take pm__law_take an__law_take cd__law_take ct__law_take), sl__law_take⟩)
    (cc__law_take : PySem.W.codeIn K cd__law_take "_law_take" = true)
    (k__law_take : PySem.W.keepIn K (.ref E__law_take) = true)
    (a__law_meet : PySem.W.nsIn K mainGlobals "_law_meet" = some (some (.ref E__law_meet)))
    (l__law_meet : K.lookup E__law_meet = some ⟨oc__law_meet, od__law_meet, .func (PySem.W.fnOf "_law_meet" "_law_meet" (defArgs s__law_meet) (defBody s__law_meet) (defScope s__law_meet) .none kV__law_meet dc__law_meet pm__law_meet an__law_meet cd__law_meet ct__law_meet), sl__law_meet⟩)
    (cc__law_meet : PySem.W.codeIn K cd__law_meet "_law_meet" = true)
    (k__law_meet : PySem.W.keepIn K (.ref E__law_meet) = true)
    (a__law_take_back : PySem.W.nsIn K mainGlobals "_law_take_back" = some (some (.ref E__law_take_back)))
    (l__law_take_back : K.lookup E__law_take_back = some ⟨oc__law_take_back, od__law_take_back, .func (PySem.W.fnOf "_law_take_back" "_law_take_back" (defArgs s__law_take_back) (defBody s__law_take_back) (defScope s__law_take_back) .none kV__law_take_back dc__law_take_back pm__law_take_back an__law_take_back cd__law_take_back ct__law_take_back), sl__law_take_back⟩)
    (cc__law_take_back : PySem.W.codeIn K cd__law_take_back "_law_take_back" = true)
    (k__law_take_back : PySem.W.keepIn K (.ref E__law_take_back) = true)
    (a__law_add : PySem.W.nsIn K mainGlobals "_law_add" = some (some (.ref E__law_add)))
    (l__law_add : K.lookup E__law_add = some ⟨oc__law_add, od__law_add, .func (PySem.W.fnOf "_law_add" "_law_add" (defArgs s__law_add) (defBody s__law_add) (defScope s__law_add) .none kV__law_add dc__law_add pm__law_add an__law_add cd__law_add ct__law_add), sl__law_add⟩)
    (cc__law_add : PySem.W.codeIn K cd__law_add "_law_add" = true)
    (k__law_add : PySem.W.keepIn K (.ref E__law_add) = true)
    (a_Alphabet___init__ : PySem.W.findIn K (.ref A_Alphabet) "__init__" = some (some (.ref E_Alphabet___init__)))
    (i_Alphabet___init__ : PySem.W.isFn K (.ref E_Alphabet___init__) = true)
    (l_Alphabet___init__ : K.lookup E_Alphabet___init__ = some ⟨oc_Alphabet___init__, od_Alphabet___init__, .func (PySem.W.fnOf "__init__" "Alphabet.__init__" (defArgs s_Alphabet___init__) (defBody s_Alphabet___init__) (defScope s_Alphabet___init__) .none kV_Alphabet___init__ dc_Alphabet___init__ pm_Alphabet___init__ an_Alphabet___init__ cd_Alphabet___init__ ct_Alphabet___init__), sl_Alphabet___init__⟩)
    (cc_Alphabet___init__ : PySem.W.codeIn K cd_Alphabet___init__ "Alphabet.__init__" = true)
    (k_Alphabet___init__ : PySem.W.keepIn K (.ref E_Alphabet___init__) = true)
    (a_masks : PySem.W.nsIn K mainGlobals "masks" = some (some (.ref E_masks)))
    (l_masks : K.lookup E_masks = some ⟨oc_masks, od_masks, .func (PySem.W.fnOf "masks" "masks" (defArgs s_masks) (defBody s_masks) (defScope s_masks) .none kV_masks dc_masks pm_masks an_masks cd_masks ct_masks), sl_masks⟩)
    (cc_masks : PySem.W.codeIn K cd_masks "masks" = true)
    (k_masks : PySem.W.keepIn K (.ref E_masks) = true)
    (a_Table__resting : PySem.W.findIn K (.ref A_Table) "_resting" = some (some (.ref E_Table__resting)))
    (i_Table__resting : PySem.W.isFn K (.ref E_Table__resting) = true)
    (l_Table__resting : K.lookup E_Table__resting = some ⟨oc_Table__resting, od_Table__resting, .func (PySem.W.fnOf "_resting" "Table._resting" (defArgs s_Table__resting) (defBody s_Table__resting) (defScope s_Table__resting) .none kV_Table__resting dc_Table__resting pm_Table__resting an_Table__resting cd_Table__resting ct_Table__resting), sl_Table__resting⟩)
    (cc_Table__resting : PySem.W.codeIn K cd_Table__resting "Table._resting" = true)
    (k_Table__resting : PySem.W.keepIn K (.ref E_Table__resting) = true)
    (a_Table_do : PySem.W.findIn K (.ref A_Table) "do" = some (some (.ref E_Table_do)))
    (i_Table_do : PySem.W.isFn K (.ref E_Table_do) = true)
    (l_Table_do : K.lookup E_Table_do = some ⟨oc_Table_do, od_Table_do, .func (PySem.W.fnOf "do" "Table.do" (defArgs s_Table_do) (defBody s_Table_do) (defScope s_Table_do) .none kV_Table_do dc_Table_do pm_Table_do an_Table_do cd_Table_do ct_Table_do), sl_Table_do⟩)
    (cc_Table_do : PySem.W.codeIn K cd_Table_do "Table.do" = true)
    (k_Table_do : PySem.W.keepIn K (.ref E_Table_do) = true)
    (a_Table_do_again : PySem.W.findIn K (.ref A_Table) "do_again" = some (some (.ref E_Table_do_again)))
    (i_Table_do_again : PySem.W.isFn K (.ref E_Table_do_again) = true)
    (l_Table_do_again : K.lookup E_Table_do_again = some ⟨oc_Table_do_again, od_Table_do_again, .func (PySem.W.fnOf "do_again" "Table.do_again" (defArgs s_Table_do_again) (defBody s_Table_do_again) (defScope s_Table_do_again) .none kV_Table_do_again dc_Table_do_again pm_Table_do_again an_Table_do_again cd_Table_do_again ct_Table_do_again), sl_Table_do_again⟩)
    (cc_Table_do_again : PySem.W.codeIn K cd_Table_do_again "Table.do_again" = true)
    (k_Table_do_again : PySem.W.keepIn K (.ref E_Table_do_again) = true)
    (a_Table_row : PySem.W.findIn K (.ref A_Table) "row" = some (some (.ref E_Table_row)))
    (i_Table_row : PySem.W.isFn K (.ref E_Table_row) = true)
    (l_Table_row : K.lookup E_Table_row = some ⟨oc_Table_row, od_Table_row, .func (PySem.W.fnOf "row" "Table.row" (defArgs s_Table_row) (defBody s_Table_row) (defScope s_Table_row) .none kV_Table_row dc_Table_row pm_Table_row an_Table_row cd_Table_row ct_Table_row), sl_Table_row⟩)
    (cc_Table_row : PySem.W.codeIn K cd_Table_row "Table.row" = true)
    (k_Table_row : PySem.W.keepIn K (.ref E_Table_row) = true)
    (a_equivalent : PySem.W.nsIn K mainGlobals "equivalent" = some (some (.ref E_equivalent)))
    (l_equivalent : K.lookup E_equivalent = some ⟨oc_equivalent, od_equivalent, .func (PySem.W.fnOf "equivalent" "equivalent" (defArgs s_equivalent) (defBody s_equivalent) (defScope s_equivalent) .none kV_equivalent dc_equivalent pm_equivalent an_equivalent cd_equivalent ct_equivalent), sl_equivalent⟩)
    (cc_equivalent : PySem.W.codeIn K cd_equivalent "equivalent" = true)
    (k_equivalent : PySem.W.keepIn K (.ref E_equivalent) = true)
    (a__law_alphabet : PySem.W.nsIn K mainGlobals "_law_alphabet" = some (some (.ref E__law_alphabet)))
    (l__law_alphabet : K.lookup E__law_alphabet = some ⟨oc__law_alphabet, od__law_alphabet, .func (PySem.W.fnOf "_law_alphabet" "_law_alphabet" (defArgs s__law_alphabet) (defBody s__law_alphabet) (defScope s__law_alphabet) .none kV__law_alphabet dc__law_alphabet pm__law_alphabet an__law_alphabet cd__law_alphabet ct__law_alphabet), sl__law_alphabet⟩)
    (cc__law_alphabet : PySem.W.codeIn K cd__law_alphabet "_law_alphabet" = true)
    (k__law_alphabet : PySem.W.keepIn K (.ref E__law_alphabet) = true)
    (a__law_resting : PySem.W.nsIn K mainGlobals "_law_resting" = some (some (.ref E__law_resting)))
    (l__law_resting : K.lookup E__law_resting = some ⟨oc__law_resting, od__law_resting, .func (PySem.W.fnOf "_law_resting" "_law_resting" (defArgs s__law_resting) (defBody s__law_resting) (defScope s__law_resting) .none kV__law_resting dc__law_resting pm__law_resting an__law_resting cd__law_resting ct__law_resting), sl__law_resting⟩)
    (cc__law_resting : PySem.W.codeIn K cd__law_resting "_law_resting" = true)
    (k__law_resting : PySem.W.keepIn K (.ref E__law_resting) = true)
    (a_first_letters : PySem.W.nsIn K mainGlobals "first_letters" = some (some (.ref E_first_letters)))
    (l_first_letters : K.lookup E_first_letters = some ⟨oc_first_letters, od_first_letters, .func (PySem.W.fnOf "first_letters" "first_letters" (defArgs s_first_letters) (defBody s_first_letters) (defScope s_first_letters) .none kV_first_letters dc_first_letters pm_first_letters an_first_letters cd_first_letters ct_first_letters), sl_first_letters⟩)
    (cc_first_letters : PySem.W.codeIn K cd_first_letters "first_letters" = true)
    (k_first_letters : PySem.W.keepIn K (.ref E_first_letters) = true)
    (a_Table_undo : PySem.W.findIn K (.ref A_Table) "undo" = some (some (.ref E_Table_undo)))
    (i_Table_undo : PySem.W.isFn K (.ref E_Table_undo) = true)
    (l_Table_undo : K.lookup E_Table_undo = some ⟨oc_Table_undo, od_Table_undo, .func (PySem.W.fnOf "undo" "Table.undo" (defArgs s_Table_undo) (defBody s_Table_undo) (defScope s_Table_undo) .none kV_Table_undo dc_Table_undo pm_Table_undo an_Table_undo cd_Table_undo ct_Table_undo), sl_Table_undo⟩)
    (cc_Table_undo : PySem.W.codeIn K cd_Table_undo "Table.undo" = true)
    (k_Table_undo : PySem.W.keepIn K (.ref E_Table_undo) = true)
    (a_Table_undo_with_all : PySem.W.findIn K (.ref A_Table) "undo_with_all" = some (some (.ref E_Table_undo_with_all)))
    (i_Table_undo_with_all : PySem.W.isFn K (.ref E_Table_undo_with_all) = true)
    (l_Table_undo_with_all : K.lookup E_Table_undo_with_all = some ⟨oc_Table_undo_with_all, od_Table_undo_with_all, .func (PySem.W.fnOf "undo_with_all" "Table.undo_with_all" (defArgs s_Table_undo_with_all) (defBody s_Table_undo_with_all) (defScope s_Table_undo_with_all) .none kV_Table_undo_with_all dc_Table_undo_with_all pm_Table_undo_with_all an_Table_undo_with_all cd_Table_undo_with_all ct_Table_undo_with_all), sl_Table_undo_with_all⟩)
    (cc_Table_undo_with_all : PySem.W.codeIn K cd_Table_undo_with_all "Table.undo_with_all" = true)
    (k_Table_undo_with_all : PySem.W.keepIn K (.ref E_Table_undo_with_all) = true)
    (a__law_due : PySem.W.nsIn K mainGlobals "_law_due" = some (some (.ref E__law_due)))
    (l__law_due : K.lookup E__law_due = some ⟨oc__law_due, od__law_due, .func (PySem.W.fnOf "_law_due" "_law_due" (defArgs s__law_due) (defBody s__law_due) (defScope s__law_due) .none kV__law_due dc__law_due pm__law_due an__law_due cd__law_due ct__law_due), sl__law_due⟩)
    (cc__law_due : PySem.W.codeIn K cd__law_due "_law_due" = true)
    (k__law_due : PySem.W.keepIn K (.ref E__law_due) = true)
    (a_least_form : PySem.W.nsIn K mainGlobals "least_form" = some (some (.ref E_least_form)))
    (l_least_form : K.lookup E_least_form = some ⟨oc_least_form, od_least_form, .func (PySem.W.fnOf "least_form" "least_form" (defArgs s_least_form) (defBody s_least_form) (defScope s_least_form) .none kV_least_form dc_least_form pm_least_form an_least_form cd_least_form ct_least_form), sl_least_form⟩)
    (cc_least_form : PySem.W.codeIn K cd_least_form "least_form" = true)
    (k_least_form : PySem.W.keepIn K (.ref E_least_form) = true)
    (a_Table_word : PySem.W.findIn K (.ref A_Table) "word" = some (some (.ref E_Table_word)))
    (i_Table_word : PySem.W.isFn K (.ref E_Table_word) = true)
    (l_Table_word : K.lookup E_Table_word = some ⟨oc_Table_word, od_Table_word, .func (PySem.W.fnOf "word" "Table.word" (defArgs s_Table_word) (defBody s_Table_word) (defScope s_Table_word) .none kV_Table_word dc_Table_word pm_Table_word an_Table_word cd_Table_word ct_Table_word), sl_Table_word⟩)
    (cc_Table_word : PySem.W.codeIn K cd_Table_word "Table.word" = true)
    (k_Table_word : PySem.W.keepIn K (.ref E_Table_word) = true)
    (a__law_called : PySem.W.nsIn K mainGlobals "_law_called" = some (some (.ref E__law_called)))
    (l__law_called : K.lookup E__law_called = some ⟨oc__law_called, od__law_called, .func (PySem.W.fnOf "_law_called" "_law_called" (defArgs s__law_called) (defBody s__law_called) (defScope s__law_called) .none kV__law_called dc__law_called pm__law_called an__law_called (.ref c__law_called) ct__law_called), sl__law_called⟩)
    (cc__law_called : PySem.W.codeIn K (.ref c__law_called) "_law_called" = true)
    (k__law_called : PySem.W.keepIn K (.ref E__law_called) = true)
    (a__law_same : PySem.W.nsIn K mainGlobals "_law_same" = some (some (.ref E__law_same)))
    (l__law_same : K.lookup E__law_same = some ⟨oc__law_same, od__law_same, .func (PySem.W.fnOf "_law_same" "_law_same" (defArgs s__law_same) (defBody s__law_same) (defScope s__law_same) .none kV__law_same dc__law_same pm__law_same an__law_same cd__law_same ct__law_same), sl__law_same⟩)
    (cc__law_same : PySem.W.codeIn K cd__law_same "_law_same" = true)
    (k__law_same : PySem.W.keepIn K (.ref E__law_same) = true)
    (a_law : PySem.W.nsIn K mainGlobals "law" = some (some (.ref E_law)))
    (l_law : K.lookup E_law = some ⟨oc_law, od_law, .func (PySem.W.fnOf "law" "law" (defArgs s_law) (defBody s_law) (defScope s_law) .none kV_law dc_law pm_law an_law (.ref c_law) ct_law), sl_law⟩)
    (cc_law : PySem.W.codeIn K (.ref c_law) "law" = true)
    (k_law : PySem.W.keepIn K (.ref E_law) = true)
    (a__law_told : PySem.W.nsIn K mainGlobals "_law_told" = some (some (.ref E__law_told)))
    (l__law_told : K.lookup E__law_told = some ⟨oc__law_told, od__law_told, .func (PySem.W.fnOf "_law_told" "_law_told" (defArgs s__law_told) (defBody s__law_told) (defScope s__law_told) .none kV__law_told dc__law_told pm__law_told an__law_told cd__law_told ct__law_told), sl__law_told⟩)
    (cc__law_told : PySem.W.codeIn K cd__law_told "_law_told" = true)
    (k__law_told : PySem.W.keepIn K (.ref E__law_told) = true)
    (q__law_called : K.lookup c__law_called = some ⟨oq__law_called, dq__law_called, .fields vq__law_called, sq__law_called⟩)
    (v__law_called : vq__law_called[11]? = some (.ref P__law_called))
    (n__law_called : K.lookup P__law_called = none)
    (q_law : K.lookup c_law = some ⟨oq_law, dq_law, .fields vq_law, sq_law⟩)
    (v_law : vq_law[11]? = some (.ref P_law))
    (n_law : K.lookup P_law = none)
    (z_all : PySem.W.nsIn K mainGlobals "all" = some none)
    (z_any : PySem.W.nsIn K mainGlobals "any" = some none)
    (z_bool : PySem.W.nsIn K mainGlobals "bool" = some none)
    (z_dict : PySem.W.nsIn K mainGlobals "dict" = some none)
    (z_int : PySem.W.nsIn K mainGlobals "int" = some none)
    (z_isinstance : PySem.W.nsIn K mainGlobals "isinstance" = some none)
    (z_len : PySem.W.nsIn K mainGlobals "len" = some none)
    (z_list : PySem.W.nsIn K mainGlobals "list" = some none)
    (z_range : PySem.W.nsIn K mainGlobals "range" = some none)
    (z_sorted : PySem.W.nsIn K mainGlobals "sorted" = some none)
    (z_str : PySem.W.nsIn K mainGlobals "str" = some none)
    (z_tuple : PySem.W.nsIn K mainGlobals "tuple" = some none)
    (v_MOST_HANDS : PySem.W.nsIn K mainGlobals "MOST_HANDS" = some (some (.int 4 t_MOST_HANDS)))
    (v_MOST_LETTERS : PySem.W.nsIn K mainGlobals "MOST_LETTERS" = some (some (.int 6 t_MOST_LETTERS)))
    (v_MOST_PLACES : PySem.W.nsIn K mainGlobals "MOST_PLACES" = some (some (.int 4 t_MOST_PLACES)))
    (nd_tabs : [P__law_called, P_law].Nodup) :
    ∃ (fd : FuncData) (cs : List (Addr × Addr)) (ca : Cn), TabF K ca ["_law_called", "law"] cs ∧ (∀ a is, roK K a is → ca.ro a is) ∧ (∀ (s : Shared) (v : Value), BindsTo s fd ⟨[v], []⟩ [("script", v)]) ∧ ∀ base : Heap, K.In base → base.Ns mainGlobals mg → (∀ p ∈ cs, LamX.TabB base mg p.1 p.2) → FnOk l.prog w K mg base (L2.CX l.prog w) 10 fa fd ["script"] (spB ca 1 B_law) := by
  have e := hfa.symm.trans (PySem.W.mg_of X G a_law)
  cases e
  have bt : Bt mg := ⟨PySem.W.mg_none_of X G z_all, PySem.W.mg_none_of X G z_any, PySem.W.mg_none_of X G z_bool, PySem.W.mg_none_of X G z_dict, PySem.W.mg_none_of X G z_int, PySem.W.mg_none_of X G z_isinstance, PySem.W.mg_none_of X G z_len, PySem.W.mg_none_of X G z_list, PySem.W.mg_none_of X G z_range, PySem.W.mg_none_of X G z_sorted, PySem.W.mg_none_of X G z_str, PySem.W.mg_none_of X G z_tuple⟩
  have cs : Cs mg := ⟨⟨_, PySem.W.mg_of X G v_MOST_HANDS⟩, ⟨_, PySem.W.mg_of X G v_MOST_LETTERS⟩, ⟨_, PySem.W.mg_of X G v_MOST_PLACES⟩⟩
  have hro : ∀ a ns H, (cnK cls tbs K).ro a ns → SqL K H a (ns.map V.int) := fun _ _ _ z => .inr z
  have ad_Alphabet : (cnK cls tbs K).ad 0 = A_Alphabet := cnK_ad rfl aC_Alphabet
  have C_Alphabet : ClF (cnK cls tbs K) K 0 ["places", "letters"] := ⟨by rw [ad_Alphabet]; exact ⟨pg_Alphabet, hd_Alphabet, po_Alphabet, sa_Alphabet⟩, rfl, by rw [ad_Alphabet]; intro f hf; simp only [List.mem_cons, List.not_mem_nil, or_false] at hf; rcases hf with rfl | rfl <;> first | exact na_Alphabet_places | exact na_Alphabet_letters⟩
  have ad_Table : (cnK cls tbs K).ad 1 = A_Table := cnK_ad rfl aC_Table
  have C_Table : ClF (cnK cls tbs K) K 1 ["_alphabet", "_rows", "_events", "_count"] := ⟨by rw [ad_Table]; exact ⟨pg_Table, hd_Table, po_Table, sa_Table⟩, rfl, by rw [ad_Table]; intro f hf; simp only [List.mem_cons, List.not_mem_nil, or_false] at hf; rcases hf with rfl | rfl | rfl | rfl <;> first | exact na_Table__alphabet | exact na_Table__rows | exact na_Table__events | exact na_Table__count⟩
  have ad_InvalidHand : (cnK cls tbs K).ad 3 = A_InvalidHand := cnK_ad rfl aC_InvalidHand
  have Ex_InvalidHand : ExF K mg (cnK cls tbs K) "InvalidHand" 3 := by show ExFC K mg "InvalidHand" ((cnK cls tbs K).ad 3); rw [ad_InvalidHand]; exact ⟨PySem.W.mg_of X G aC_InvalidHand, ex_InvalidHand, kc_InvalidHand, sb_InvalidHand, ty_InvalidHand, exm_self' sb_InvalidHand ic_InvalidHand ty_InvalidHand sc_InvalidHand⟩
  have ad_NotReady : (cnK cls tbs K).ad 2 = A_NotReady := cnK_ad rfl aC_NotReady
  have Ex_NotReady : ExF K mg (cnK cls tbs K) "NotReady" 2 := by show ExFC K mg "NotReady" ((cnK cls tbs K).ad 2); rw [ad_NotReady]; exact ⟨PySem.W.mg_of X G aC_NotReady, ex_NotReady, kc_NotReady, sb_NotReady, ty_NotReady, exm_self' sb_NotReady ic_NotReady ty_NotReady sc_NotReady⟩
  have Ne_NotReady_InvalidHand : PySem.W.exmOne K (.ref ((cnK cls tbs K).ad 2)) (.ref ((cnK cls tbs K).ad 3)) = some false := by rw [ad_NotReady, ad_InvalidHand]; exact exm_other' ic_InvalidHand ty_InvalidHand sc_NotReady_InvalidHand sb_InvalidHand
  have t__law_called := tab_mk a__law_called l__law_called rfl q__law_called v__law_called
  have T0__law_called : (cnK cls tbs K).tb 0 = (P__law_called, (("_law_called" : Str) ++ ".<locals>.") ++ "<lambda>") := cnK_tb rfl t__law_called
  have t_law := tab_mk a_law l_law rfl q_law v_law
  have T0_law : (cnK cls tbs K).tb 1 = (P_law, (("law" : Str) ++ ".<locals>.") ++ "<lambda>") := cnK_tb rfl t_law
  have F_fits := fun_mk (st := s_fits) l_fits cc_fits k_fits
  have b_fits := F_fits.binds (ps := ["letter", "places"]) fun _ _ _ _ _ _ us hl => match us, hl with | [_, _], _ => rfl
  have F_independent := fun_mk (st := s_independent) l_independent cc_independent k_independent
  have b_independent := F_independent.binds (ps := ["alphabet", "first", "second"]) fun _ _ _ _ _ _ us hl => match us, hl with | [_, _, _], _ => rfl
  have F_Table___init__ := fun_mk (st := s_Table___init__) l_Table___init__ cc_Table___init__ k_Table___init__
  have b_Table___init__ := F_Table___init__.binds (ps := ["self", "alphabet", "hands"]) fun _ _ _ _ _ _ us hl => match us, hl with | [_, _, _], _ => rfl
  have F_Table__check := fun_mk (st := s_Table__check) l_Table__check cc_Table__check k_Table__check
  have b_Table__check := F_Table__check.binds (ps := ["self", "hand"]) fun _ _ _ _ _ _ us hl => match us, hl with | [_, _], _ => rfl
  have F_Table__add := fun_mk (st := s_Table__add) l_Table__add cc_Table__add k_Table__add
  have b_Table__add := F_Table__add.binds (ps := ["self", "hand", "letter"]) fun _ _ _ _ _ _ us hl => match us, hl with | [_, _, _], _ => rfl
  have F_Table__newest := fun_mk (st := s_Table__newest) l_Table__newest cc_Table__newest k_Table__newest
  have b_Table__newest := F_Table__newest.binds (ps := ["self", "hand"]) fun _ _ _ _ _ _ us hl => match us, hl with | [_, _], _ => rfl
  have F_Table__take_back := fun_mk (st := s_Table__take_back) l_Table__take_back cc_Table__take_back k_Table__take_back
  have b_Table__take_back := F_Table__take_back.binds (ps := ["self", "number"]) fun _ _ _ _ _ _ us hl => match us, hl with | [_, _], _ => rfl
  have F_Table_events := fun_mk (st := s_Table_events) l_Table_events cc_Table_events k_Table_events
  have b_Table_events := F_Table_events.binds (ps := ["self"]) fun _ _ _ _ _ _ us hl => match us, hl with | [_], _ => rfl
  have F_place_word := fun_mk (st := s_place_word) l_place_word cc_place_word k_place_word
  have b_place_word := F_place_word.binds (ps := ["alphabet", "word", "place"]) fun _ _ _ _ _ _ us hl => match us, hl with | [_, _, _], _ => rfl
  have F__law_draws := fun_mk (st := s__law_draws) l__law_draws cc__law_draws k__law_draws
  have b__law_draws := F__law_draws.binds (ps := ["script", "count"]) fun _ _ _ _ _ _ us hl => match us, hl with | [_, _], _ => rfl
  have F__law_take := fun_mk (st := s__law_take) l__law_take cc__law_take k__law_take
  have b__law_take := F__law_take.binds (ps := ["draws", "limit"]) fun _ _ _ _ _ _ us hl => match us, hl with | [_, _], _ => rfl
  have F__law_meet := fun_mk (st := s__law_meet) l__law_meet cc__law_meet k__law_meet
  have b__law_meet := F__law_meet.binds (ps := ["letters", "a", "b"]) fun _ _ _ _ _ _ us hl => match us, hl with | [_, _, _], _ => rfl
  have F__law_take_back := fun_mk (st := s__law_take_back) l__law_take_back cc__law_take_back k__law_take_back
  have b__law_take_back := F__law_take_back.binds (ps := ["model", "numbers"]) fun _ _ _ _ _ _ us hl => match us, hl with | [_, _], _ => rfl
  have F__law_add := fun_mk (st := s__law_add) l__law_add cc__law_add k__law_add
  have b__law_add := F__law_add.binds (ps := ["model", "hand", "letter"]) fun _ _ _ _ _ _ us hl => match us, hl with | [_, _, _], _ => rfl
  have F_Alphabet___init__ := fun_mk (st := s_Alphabet___init__) l_Alphabet___init__ cc_Alphabet___init__ k_Alphabet___init__
  have b_Alphabet___init__ := F_Alphabet___init__.binds (ps := ["self", "places", "letters"]) fun _ _ _ _ _ _ us hl => match us, hl with | [_, _, _], _ => rfl
  have F_masks := fun_mk (st := s_masks) l_masks cc_masks k_masks
  have b_masks := F_masks.binds (ps := ["alphabet"]) fun _ _ _ _ _ _ us hl => match us, hl with | [_], _ => rfl
  have F_Table__resting := fun_mk (st := s_Table__resting) l_Table__resting cc_Table__resting k_Table__resting
  have b_Table__resting := F_Table__resting.binds (ps := ["self", "number"]) fun _ _ _ _ _ _ us hl => match us, hl with | [_, _], _ => rfl
  have F_Table_do := fun_mk (st := s_Table_do) l_Table_do cc_Table_do k_Table_do
  have b_Table_do := F_Table_do.binds (ps := ["self", "hand", "letter"]) fun _ _ _ _ _ _ us hl => match us, hl with | [_, _, _], _ => rfl
  have F_Table_do_again := fun_mk (st := s_Table_do_again) l_Table_do_again cc_Table_do_again k_Table_do_again
  have b_Table_do_again := F_Table_do_again.binds (ps := ["self", "hand"]) fun _ _ _ _ _ _ us hl => match us, hl with | [_, _], _ => rfl
  have F_Table_row := fun_mk (st := s_Table_row) l_Table_row cc_Table_row k_Table_row
  have b_Table_row := F_Table_row.binds (ps := ["self", "hand"]) fun _ _ _ _ _ _ us hl => match us, hl with | [_, _], _ => rfl
  have F_equivalent := fun_mk (st := s_equivalent) l_equivalent cc_equivalent k_equivalent
  have b_equivalent := F_equivalent.binds (ps := ["alphabet", "first", "second"]) fun _ _ _ _ _ _ us hl => match us, hl with | [_, _, _], _ => rfl
  have F__law_alphabet := fun_mk (st := s__law_alphabet) l__law_alphabet cc__law_alphabet k__law_alphabet
  have b__law_alphabet := F__law_alphabet.binds (ps := ["draws", "most_places", "most_letters"]) fun _ _ _ _ _ _ us hl => match us, hl with | [_, _, _], _ => rfl
  have F__law_resting := fun_mk (st := s__law_resting) l__law_resting cc__law_resting k__law_resting
  have b__law_resting := F__law_resting.binds (ps := ["letters", "events", "number"]) fun _ _ _ _ _ _ us hl => match us, hl with | [_, _, _], _ => rfl
  have F_first_letters := fun_mk (st := s_first_letters) l_first_letters cc_first_letters k_first_letters
  have b_first_letters := F_first_letters.binds (ps := ["alphabet", "word"]) fun _ _ _ _ _ _ us hl => match us, hl with | [_, _], _ => rfl
  have F_Table_undo := fun_mk (st := s_Table_undo) l_Table_undo cc_Table_undo k_Table_undo
  have b_Table_undo := F_Table_undo.binds (ps := ["self", "hand"]) fun _ _ _ _ _ _ us hl => match us, hl with | [_, _], _ => rfl
  have F_Table_undo_with_all := fun_mk (st := s_Table_undo_with_all) l_Table_undo_with_all cc_Table_undo_with_all k_Table_undo_with_all
  have b_Table_undo_with_all := F_Table_undo_with_all.binds (ps := ["self", "hand"]) fun _ _ _ _ _ _ us hl => match us, hl with | [_, _], _ => rfl
  have F__law_due := fun_mk (st := s__law_due) l__law_due cc__law_due k__law_due
  have b__law_due := F__law_due.binds (ps := ["draws", "letters", "model", "kind", "hand", "letter"]) fun _ _ _ _ _ _ us hl => match us, hl with | [_, _, _, _, _, _], _ => rfl
  have F_least_form := fun_mk (st := s_least_form) l_least_form cc_least_form k_least_form
  have b_least_form := F_least_form.binds (ps := ["alphabet", "word"]) fun _ _ _ _ _ _ us hl => match us, hl with | [_, _], _ => rfl
  have F_Table_word := fun_mk (st := s_Table_word) l_Table_word cc_Table_word k_Table_word
  have b_Table_word := F_Table_word.binds (ps := ["self"]) fun _ _ _ _ _ _ us hl => match us, hl with | [_], _ => rfl
  have F__law_called := fun_mk (st := s__law_called) l__law_called cc__law_called k__law_called
  have b__law_called := F__law_called.binds (ps := ["table", "kind", "hand", "letter"]) fun _ _ _ _ _ _ us hl => match us, hl with | [_, _, _, _], _ => rfl
  have F__law_same := fun_mk (st := s__law_same) l__law_same cc__law_same k__law_same
  have b__law_same := F__law_same.binds (ps := ["found", "due"]) fun _ _ _ _ _ _ us hl => match us, hl with | [_, _], _ => rfl
  have F_law := fun_mk (st := s_law) l_law cc_law k_law
  have b_law := F_law.binds (ps := ["script"]) fun _ _ _ _ _ _ us hl => match us, hl with | [_], _ => rfl
  have F__law_told := fun_mk (st := s__law_told) l__law_told cc__law_told k__law_told
  have b__law_told := F__law_told.binds (ps := ["call"]) fun _ _ _ _ _ _ us hl => match us, hl with | [_], _ => rfl
  have M_Alphabet : Mf K mg (cnK cls tbs K) "Alphabet" 0 ["self", "places", "letters"] A_Alphabet E_Alphabet___init__ _ := ⟨ad_Alphabet, ⟨mk_Alphabet, a_Alphabet___init__, i_Alphabet___init__, kc_Alphabet⟩, PySem.W.mg_of X G aC_Alphabet, b_Alphabet___init__⟩
  have M_Table : Mf K mg (cnK cls tbs K) "Table" 1 ["self", "alphabet", "hands"] A_Table E_Table___init__ _ := ⟨ad_Table, ⟨mk_Table, a_Table___init__, i_Table___init__, kc_Table⟩, PySem.W.mg_of X G aC_Table, b_Table___init__⟩
  have D_Table__check : MtF K (cnK cls tbs K) 1 "_check" s_Table__check ["self", "hand"] E_Table__check _ := ⟨by rw [ad_Table]; exact ⟨a_Table__check, i_Table__check, k_Table__check⟩, by show _ ∉ (["_alphabet", "_rows", "_events", "_count"] : List Str); decide +kernel, b_Table__check⟩
  have D_Table__add : MtF K (cnK cls tbs K) 1 "_add" s_Table__add ["self", "hand", "letter"] E_Table__add _ := ⟨by rw [ad_Table]; exact ⟨a_Table__add, i_Table__add, k_Table__add⟩, by show _ ∉ (["_alphabet", "_rows", "_events", "_count"] : List Str); decide +kernel, b_Table__add⟩
  have D_Table__newest : MtF K (cnK cls tbs K) 1 "_newest" s_Table__newest ["self", "hand"] E_Table__newest _ := ⟨by rw [ad_Table]; exact ⟨a_Table__newest, i_Table__newest, k_Table__newest⟩, by show _ ∉ (["_alphabet", "_rows", "_events", "_count"] : List Str); decide +kernel, b_Table__newest⟩
  have D_Table__take_back : MtF K (cnK cls tbs K) 1 "_take_back" s_Table__take_back ["self", "number"] E_Table__take_back _ := ⟨by rw [ad_Table]; exact ⟨a_Table__take_back, i_Table__take_back, k_Table__take_back⟩, by show _ ∉ (["_alphabet", "_rows", "_events", "_count"] : List Str); decide +kernel, b_Table__take_back⟩
  have D_Table_events : MtF K (cnK cls tbs K) 1 "events" s_Table_events ["self"] E_Table_events _ := ⟨by rw [ad_Table]; exact ⟨a_Table_events, i_Table_events, k_Table_events⟩, by show _ ∉ (["_alphabet", "_rows", "_events", "_count"] : List Str); decide +kernel, b_Table_events⟩
  have D_Table__resting : MtF K (cnK cls tbs K) 1 "_resting" s_Table__resting ["self", "number"] E_Table__resting _ := ⟨by rw [ad_Table]; exact ⟨a_Table__resting, i_Table__resting, k_Table__resting⟩, by show _ ∉ (["_alphabet", "_rows", "_events", "_count"] : List Str); decide +kernel, b_Table__resting⟩
  have D_Table_do : MtF K (cnK cls tbs K) 1 "do" s_Table_do ["self", "hand", "letter"] E_Table_do _ := ⟨by rw [ad_Table]; exact ⟨a_Table_do, i_Table_do, k_Table_do⟩, by show _ ∉ (["_alphabet", "_rows", "_events", "_count"] : List Str); decide +kernel, b_Table_do⟩
  have D_Table_do_again : MtF K (cnK cls tbs K) 1 "do_again" s_Table_do_again ["self", "hand"] E_Table_do_again _ := ⟨by rw [ad_Table]; exact ⟨a_Table_do_again, i_Table_do_again, k_Table_do_again⟩, by show _ ∉ (["_alphabet", "_rows", "_events", "_count"] : List Str); decide +kernel, b_Table_do_again⟩
  have D_Table_row : MtF K (cnK cls tbs K) 1 "row" s_Table_row ["self", "hand"] E_Table_row _ := ⟨by rw [ad_Table]; exact ⟨a_Table_row, i_Table_row, k_Table_row⟩, by show _ ∉ (["_alphabet", "_rows", "_events", "_count"] : List Str); decide +kernel, b_Table_row⟩
  have D_Table_undo : MtF K (cnK cls tbs K) 1 "undo" s_Table_undo ["self", "hand"] E_Table_undo _ := ⟨by rw [ad_Table]; exact ⟨a_Table_undo, i_Table_undo, k_Table_undo⟩, by show _ ∉ (["_alphabet", "_rows", "_events", "_count"] : List Str); decide +kernel, b_Table_undo⟩
  have D_Table_undo_with_all : MtF K (cnK cls tbs K) 1 "undo_with_all" s_Table_undo_with_all ["self", "hand"] E_Table_undo_with_all _ := ⟨by rw [ad_Table]; exact ⟨a_Table_undo_with_all, i_Table_undo_with_all, k_Table_undo_with_all⟩, by show _ ∉ (["_alphabet", "_rows", "_events", "_count"] : List Str); decide +kernel, b_Table_undo_with_all⟩
  have D_Table_word : MtF K (cnK cls tbs K) 1 "word" s_Table_word ["self"] E_Table_word _ := ⟨by rw [ad_Table]; exact ⟨a_Table_word, i_Table_word, k_Table_word⟩, by show _ ∉ (["_alphabet", "_rows", "_events", "_count"] : List Str); decide +kernel, b_Table_word⟩
  refine ⟨(PySem.W.fnOf "law" "law" (defArgs s_law) (defBody s_law) (defScope s_law) .none kV_law dc_law pm_law an_law (.ref c_law) ct_law), [(c__law_called, P__law_called), (c_law, P_law)], (cnK cls tbs K), ⟨rfl, fun j x h => by match j, h with | 0, h => exact ⟨_, rfl, by cases h; exact t__law_called⟩ | 1, h => exact ⟨_, rfl, by cases h; exact t_law⟩ | n + 2, h => simp at h, fun p hp => by simp only [List.mem_cons, List.not_mem_nil, or_false] at hp; rcases hp with rfl | rfl <;> first | exact n__law_called | exact n_law, nd_tabs, fun j p h => by match j, h with | 0, h => cases h; rw [T0__law_called] | 1, h => cases h; rw [T0_law] | n + 2, h => simp at h⟩, fun _ _ z => z, fun s v => .of_eq rfl, fun base _ _ TBs => ?_⟩
  have TB__law_called := TBs (c__law_called, P__law_called) (by simp)
  have TB_law := TBs (c_law, P_law) (by simp)
  have G_fits := ok_fits (P := l.prog) (w := w) (mg := mg) (base := base) (ca := (cnK cls tbs K)) F_fits bt
  have G_independent := ok_independent (P := l.prog) (w := w) (mg := mg) (base := base) (ca := (cnK cls tbs K)) F_independent C_Alphabet
  have G_Table___init__ := ok_Table___init__ (P := l.prog) (w := w) (mg := mg) (base := base) (ca := (cnK cls tbs K)) F_Table___init__ bt cs C_Table Ex_InvalidHand
  have G_Table__check := ok_Table__check (P := l.prog) (w := w) (mg := mg) (base := base) (ca := (cnK cls tbs K)) F_Table__check bt C_Table Ex_InvalidHand
  have G_Table__add := ok_Table__add (P := l.prog) (w := w) (mg := mg) (base := base) (ca := (cnK cls tbs K)) F_Table__add C_Table
  have G_Table__newest := ok_Table__newest (P := l.prog) (w := w) (mg := mg) (base := base) (ca := (cnK cls tbs K)) F_Table__newest C_Table Ex_NotReady
  have G_Table__take_back := ok_Table__take_back (P := l.prog) (w := w) (mg := mg) (base := base) (ca := (cnK cls tbs K)) F_Table__take_back C_Table
  have G_Table_events := ok_Table_events (P := l.prog) (w := w) (mg := mg) (base := base) (ca := (cnK cls tbs K)) F_Table_events bt C_Table
  have G_place_word := ok_place_word (P := l.prog) (w := w) (mg := mg) (base := base) (ca := (cnK cls tbs K)) F_place_word bt C_Alphabet
  have G__law_draws := ok__law_draws (P := l.prog) (w := w) (mg := mg) (base := base) (ca := (cnK cls tbs K)) F__law_draws bt hro
  have G__law_take := ok__law_take (P := l.prog) (w := w) (mg := mg) (base := base) (ca := (cnK cls tbs K)) F__law_take bt
  have G__law_meet := ok__law_meet (P := l.prog) (w := w) (mg := mg) (base := base) (ca := (cnK cls tbs K)) F__law_meet bt
  have G__law_take_back := ok__law_take_back (P := l.prog) (w := w) (mg := mg) (base := base) (ca := (cnK cls tbs K)) F__law_take_back
  have G__law_add := ok__law_add (P := l.prog) (w := w) (mg := mg) (base := base) (ca := (cnK cls tbs K)) F__law_add
  have G_Alphabet___init__ := ok_Alphabet___init__ (P := l.prog) (w := w) (mg := mg) (base := base) (ca := (cnK cls tbs K)) F_Alphabet___init__ bt cs C_Alphabet ⟨F_fits, PySem.W.mg_of X G a_fits, b_fits⟩ G_fits
  have G_masks := ok_masks (P := l.prog) (w := w) (mg := mg) (base := base) (ca := (cnK cls tbs K)) F_masks bt C_Alphabet ⟨F_independent, PySem.W.mg_of X G a_independent, b_independent⟩ G_independent
  have G_Table__resting := ok_Table__resting (P := l.prog) (w := w) (mg := mg) (base := base) (ca := (cnK cls tbs K)) F_Table__resting bt C_Table ⟨F_independent, PySem.W.mg_of X G a_independent, b_independent⟩ G_independent
  have G_Table_do := ok_Table_do (P := l.prog) (w := w) (mg := mg) (base := base) (ca := (cnK cls tbs K)) F_Table_do C_Table D_Table__check G_Table__check D_Table__add G_Table__add
  have G_Table_do_again := ok_Table_do_again (P := l.prog) (w := w) (mg := mg) (base := base) (ca := (cnK cls tbs K)) F_Table_do_again C_Table Ex_NotReady D_Table__check G_Table__check D_Table__add G_Table__add
  have G_Table_row := ok_Table_row (P := l.prog) (w := w) (mg := mg) (base := base) (ca := (cnK cls tbs K)) F_Table_row C_Table D_Table__check G_Table__check
  have G_equivalent := ok_equivalent (P := l.prog) (w := w) (mg := mg) (base := base) (ca := (cnK cls tbs K)) F_equivalent bt C_Alphabet ⟨F_place_word, PySem.W.mg_of X G a_place_word, b_place_word⟩ G_place_word
  have G__law_alphabet := ok__law_alphabet (P := l.prog) (w := w) (mg := mg) (base := base) (ca := (cnK cls tbs K)) F__law_alphabet bt ⟨F__law_take, PySem.W.mg_of X G a__law_take, b__law_take⟩ G__law_take
  have G__law_resting := ok__law_resting (P := l.prog) (w := w) (mg := mg) (base := base) (ca := (cnK cls tbs K)) F__law_resting bt ⟨F__law_meet, PySem.W.mg_of X G a__law_meet, b__law_meet⟩ G__law_meet
  have G_first_letters := ok_first_letters (P := l.prog) (w := w) (mg := mg) (base := base) (ca := (cnK cls tbs K)) F_first_letters bt ⟨F_masks, PySem.W.mg_of X G a_masks, b_masks⟩ G_masks
  have G_Table_undo := ok_Table_undo (P := l.prog) (w := w) (mg := mg) (base := base) (ca := (cnK cls tbs K)) F_Table_undo C_Table Ex_NotReady D_Table__check G_Table__check D_Table__newest G_Table__newest D_Table__resting G_Table__resting D_Table__take_back G_Table__take_back
  have G_Table_undo_with_all := ok_Table_undo_with_all (P := l.prog) (w := w) (mg := mg) (base := base) (ca := (cnK cls tbs K)) F_Table_undo_with_all C_Table D_Table__check G_Table__check D_Table__resting G_Table__resting D_Table__newest G_Table__newest D_Table__take_back G_Table__take_back
  have G__law_due := ok__law_due (P := l.prog) (w := w) (mg := mg) (base := base) (ca := (cnK cls tbs K)) F__law_due bt ⟨F__law_add, PySem.W.mg_of X G a__law_add, b__law_add⟩ G__law_add ⟨F__law_resting, PySem.W.mg_of X G a__law_resting, b__law_resting⟩ G__law_resting ⟨F__law_take_back, PySem.W.mg_of X G a__law_take_back, b__law_take_back⟩ G__law_take_back
  have G_least_form := ok_least_form (P := l.prog) (w := w) (mg := mg) (base := base) (ca := (cnK cls tbs K)) F_least_form bt ⟨F_first_letters, PySem.W.mg_of X G a_first_letters, b_first_letters⟩ G_first_letters
  have G_Table_word := ok_Table_word (P := l.prog) (w := w) (mg := mg) (base := base) (ca := (cnK cls tbs K)) F_Table_word C_Table ⟨F_least_form, PySem.W.mg_of X G a_least_form, b_least_form⟩ G_least_form
  have G__law_called := ok__law_called (P := l.prog) (w := w) (mg := mg) (base := base) (ca := (cnK cls tbs K)) l__law_called cc__law_called TB__law_called T0__law_called C_Table Ex_InvalidHand Ex_NotReady Ne_NotReady_InvalidHand ⟨F__law_told, PySem.W.mg_of X G a__law_told, b__law_told⟩ D_Table_do G_Table_do D_Table_undo G_Table_undo D_Table_undo_with_all G_Table_undo_with_all D_Table_do_again G_Table_do_again
  have G__law_same := ok__law_same (P := l.prog) (w := w) (mg := mg) (base := base) (ca := (cnK cls tbs K)) ⟨F__law_same, PySem.W.mg_of X G a__law_same, b__law_same⟩ bt
  have G_law := ok_law (P := l.prog) (w := w) (mg := mg) (base := base) (ca := (cnK cls tbs K)) l_law cc_law TB_law T0_law bt C_Table Ex_InvalidHand Ex_NotReady Ne_NotReady_InvalidHand ⟨F__law_told, PySem.W.mg_of X G a__law_told, b__law_told⟩ D_Table_events G_Table_events D_Table_row G_Table_row D_Table_word G_Table_word ⟨F__law_draws, PySem.W.mg_of X G a__law_draws, b__law_draws⟩ G__law_draws ⟨F__law_alphabet, PySem.W.mg_of X G a__law_alphabet, b__law_alphabet⟩ G__law_alphabet ⟨F__law_take, PySem.W.mg_of X G a__law_take, b__law_take⟩ G__law_take ⟨F__law_due, PySem.W.mg_of X G a__law_due, b__law_due⟩ G__law_due ⟨F__law_same, PySem.W.mg_of X G a__law_same, b__law_same⟩ (G__law_same 8) ⟨F__law_called, PySem.W.mg_of X G a__law_called, b__law_called⟩ G__law_called ⟨F_equivalent, PySem.W.mg_of X G a_equivalent, b_equivalent⟩ G_equivalent M_Alphabet G_Alphabet___init__ M_Table G_Table___init__
  exact G_law
theorem walk {l : PySem.W.OpenLaw} {q : Program} {loose : List Str} {XP : (Str → Option Value) → Heap → Prop} {YP : World → Heap → Prop} {d : DefRec} {K : Params → PySem.W.Frag} (hn : l.most = some 63) (hdf : d.params.defaults = []) (hrec : ∀ x ∈ (["_law_called", "law"] : List Str), ∃ e, (PyProof.Rows.recsOf q).find? (fun r => r.name == x) = some e) (hlaw : ∀ ns : List Int, ns.length ≤ 63 → ∃ h, B_law 0 [.ro ns] (tabs 2) = .ret (.v (.bl true)) h)
    (hY : ∀ (w : World) (h : Heap), YP w h → (K w.params).In h)
    (F : ∀ (w : World) (mg : Str → Option Value) (fa : Addr) (h : Heap), (K w.params).In h → h.Ns mainGlobals mg → mg d.name = some (.ref fa) →
      ∃ (fd : FuncData) (cs : List (Addr × Addr)) (ca : Cn), TabF (K w.params) ca ["_law_called", "law"] cs ∧ (∀ a is, roK (K w.params) a is → ca.ro a is) ∧ (∀ (s : Shared) (u : Value), BindsTo s fd ⟨[u], []⟩ [("script", u)]) ∧ ∀ base : Heap, (K w.params).In base → base.Ns mainGlobals mg → (∀ p ∈ cs, LamX.TabB base mg p.1 p.2) → FnOk l.prog w (K w.params) mg base (L2.CX l.prog w) 10 fa fd ["script"] (spB ca 1 B_law)) :
    PySem.W.WalkO q loose XP YP l.row.toRowW d [] (fun f vs => PySem.call f vs) :=
  walk_tab (n := 63) (k := 10) (x := "script") hn (by decide) hdf ⟨rfl, by decide, by decide⟩ hrec hY hlaw F
end K78
set_option Elab.async false
set_option linter.all false
set_option maxRecDepth 100000
set_option maxHeartbeats 1000000
/-! the law's draws. -/
namespace K78
open PySem PySem.Spec L2 Z
/-- one draw -/
theorem take_eq {h : Own} {d : Nat} {ds : List Int} {n : Nat} (hd : Dr h d ds) (hn : 0 < n) : ∃ (r : Nat) (ds' : List Int), r < n ∧ callB B__law_take [.ref d, .int (n : Int)] h = .ok (.v (nD r)) (h.set d (iL ds')) := by
  have hlt : d < h.length := (List.getElem?_eq_some_iff.mp hd).1
  have hd' : h[d]? = some (.lst (ds.map .int)) := hd
  unfold callB
  rcases List.eq_nil_or_concat ds with rfl | ⟨xs, x, rfl⟩
  · refine ⟨0, [], hn, ?_⟩
    have : B__law_take h.length [.ref d, .int (n : Int)] h = .ret (.v (.int 0)) h := by
      unfold B__law_take body S__law_take
      simp [sSeq, hd']
    rw [this]
    have e2 : h.set d (iL []) = h := by
      apply List.ext_getElem?
      intro i
      rw [List.getElem?_set]
      split
      · rename_i e; subst e; simp [hlt]; exact (Option.some.inj ((List.getElem?_eq_getElem hlt).symm.trans hd)).symm
      · rfl
    rw [e2]
    show exitR h.length (.v (.int 0)) h = _
    unfold exitR
    dsimp only
    rw [if_pos (by rfl), List.take_length]
    rfl
  · have hn' : (0 : Int) < n := by omega
    simp only [List.concat_eq_append] at hd hd'
    have h0 : 0 ≤ x % (n : Int) := Int.emod_nonneg _ (by omega)
    have h1 : x % (n : Int) < n := Int.emod_lt_of_pos _ hn'
    refine ⟨(x % (n : Int)).toNat, xs, by omega, ?_⟩
    have e3 : fPop (.ref d) [] h.length h = .ok (.v (.int x)) (h.set d (.lst (xs.map .int))) := fPop_eq (by rw [hd']; simp) (.inr (nrf_iL xs))
    have : B__law_take h.length [.ref d, .int (n : Int)] h = .ret (.v (.int (x % (n : Int)))) (h.set d (iL xs)) := by
      unfold B__law_take body S__law_take
      have nz : ¬ ((xs.length : Int) + 1 = 0) := by omega
      simp [sSeq, hd', nz, e3, iL, hn]
    rw [this]
    show exitR h.length (.v (.int (x % (n : Int)))) _ = _
    unfold exitR
    dsimp only
    rw [if_pos (by rfl), List.take_of_length_le (by simp)]
    congr 3
    show _ = (((x % (n : Int)).toNat : Nat) : Int)
    omega
theorem Dq_draw {h H : Own} {d n : Nat} (D : Dq h d H) (hn : 0 < n) : ∃ (r : Nat) (H' : Own), r < n ∧ callB B__law_take [.ref d, nD n] H = .ok (.v (nD r)) H' ∧ Dq h d H' ∧ H'.length = H.length ∧ ∀ i, i ≠ d → H'[i]? = H[i]? := by
  obtain ⟨ds, hd⟩ := D.dr
  obtain ⟨r, ds', hr, e⟩ := take_eq hd hn
  refine ⟨r, H.set d (iL ds'), hr, e, ?_, by simp, fun i hi => by rw [List.getElem?_set, if_neg (Ne.symm hi)]⟩
  obtain ⟨ds0, l, rfl⟩ := D.ex
  refine ⟨D.lt, ds', l, ?_⟩
  rw [hp_setl (by simpa using D.lt)]
  simp
section
variable {bb : Nat} {s : Sl} {h : Own}
theorem mixE {a b c d e f m x k : Int} (h4 : s[4]? = some (some (.int m))) (h5 : s[5]? = some (some (.int k))) (h7 : s[7]? = some (some (.int x))) (ha : -(2 ^ 64) < a ∧ a < 2 ^ 64) (hb : 0 < b) (hc : -(2 ^ 64) < c ∧ c < 2 ^ 64) (hd : -(2 ^ 64) < d ∧ d < 2 ^ 64) (hf : 0 < f) :
    ed (e2 fMod (ed (eA fInt (aCons (ed (e2 fAdd (ed (e2 fAdd (ed (e2 fAdd (ed (e2 fMulA (eVar 4) (eC (.int a)))) (ed (e2 fMulA (ed (e2 fMod (ed (eA fInt (aCons (eVar 7) aNil))) (eC (.int b)))) (eC (.int c)))))) (ed (e2 fMulA (eVar 5) (eC (.int d)))))) (eC (.int e)))) aNil))) (eC (.int f))) ⟨bb, s⟩ h = .ok (.int ((m * a + x % b * c + k * d + e) % f)) h := by
  simp [h4, h5, h7, fMulA_r ha, fMulA_r hc, fMulA_r hd, hb, hf]
theorem againE {a f m k : Int} (h4 : s[4]? = some (some (.int m))) (h5 : s[5]? = some (some (.int k))) (hm : -(2 ^ 64) < m ∧ m < 2 ^ 64) (hf : 0 < f) :
    ed (e2 fMod (ed (eA fInt (aCons (ed (e2 fAdd (ed (e2 fAdd (ed (e2 fMulA (eVar 4) (eVar 4))) (ed (e2 fMulA (eC (.int a)) (eVar 4))))) (eVar 5))) aNil))) (eC (.int f))) ⟨bb, s⟩ h = .ok (.int ((m * m + a * m + k) % f)) h := by
  simp [h4, h5, fMulA_r hm, hf]
theorem geE {p q x : Int} (h7 : s[7]? = some (some (.int x))) (hq : 0 ≤ q ∧ q ≤ 1000000 ∧ p.natAbs < 2 ^ 64) : ∃ k, eTB (e2 fGe (eVar 7) (ed (e2 fPow (eC (.int p)) (eC (.int q))))) ⟨bb, s⟩ h = .ok k h := by
  refine ⟨decide (p ^ q.toNat ≤ x), ?_⟩
  simp only [eTB_eq, e2_eq, eVar_eq, h7, Res.bind_ok, ed_eq, eC_eq, fPow_ii]
  rw [if_pos hq]
  rfl
theorem modE {i : Nat} {a x : Int} (hi : s[i]? = some (some (.int x))) (ha : 0 < a) : ed (e2 fMod (ed (eA fInt (aCons (eVar i) aNil))) (eC (.int a))) ⟨bb, s⟩ h = .ok (.int (x % a)) h := by
  simp [hi, ha]
theorem divE {i : Nat} {a x : Int} (hi : s[i]? = some (some (.int x))) (ha : 0 < a ∧ a < 1073741824) : ed (e2 fDiv (eVar i) (eC (.int a))) ⟨bb, s⟩ h = .ok (.int (x / a)) h := by
  simp [hi, ha]
end
inductive DrI (NN : Nat) (h : Own) (sc : Z.D) (c f : Nat) (k : Nat) (s : Sl) (H : Own) : Prop
  | mk (cells found : List Int) (mixed : Int) (hc : h.length ≤ c) (hf : h.length ≤ f) (cf : c ≠ f) (m0 : 0 ≤ mixed) (m1 : mixed < 2147483647) (cn : cells ≠ []) (cl : cells.length ≤ 100) (fl : found.length = k)
    (hs : s = [some sc, some (.int (NN : Int)), some (.ref c), some (.ref f), some (.int mixed), none, none, none, none]) (hC : H[c]? = some (iL cells)) (hF : H[f]? = some (iL found)) (hk : H.take h.length = h)
theorem law_draws_eq {ns : List Int} (NN : Nat) (hN : NN ≤ 1000) (hn : ns.length ≤ 63) (h : Own) : ∃ ds, callB B__law_draws [.ro ns, .int (NN : Int)] h = .ok (.n (iL ds)) h := by
  have main : ∃ (o : O) (h1 : Own), ((∃ ds, o = iL ds) ∧ h1.take h.length = h) ∧ callB B__law_draws [.ro ns, .int (NN : Int)] h = .ok (.n o) (h1.take h.length) := by
    refine call_xr ?_
    unfold B__law_draws body S__law_draws
    have loop : ∀ (c f : Nat) (H : Own), DrI NN h (.ro ns) c f 0 [some (.ro ns), some (.int (NN : Int)), some (.ref c), some (.ref f), some (.int 12345), none, none, none, none] H →
        W (forGo none (tN 5) (sSeq (sSet 6 (ed (e2 fMod (eVar 5) (ed (eA fLen (aCons (eVar 2) aNil))))))
  (sSeq (sSet 7 (ed (e2 fIx (eVar 2) (eVar 6))))
  (sSeq (sSet 4 (ed (e2 fMod (ed (eA fInt (aCons (ed (e2 fAdd (ed (e2 fAdd (ed (e2 fAdd (ed (e2 fMulA (eVar 4) (eC (.int 48271)))) (ed (e2 fMulA (ed (e2 fMod (ed (eA fInt (aCons (eVar 7) aNil))) (eC (.int 1000003)))) (eC (.int 69621)))))) (ed (e2 fMulA (eVar 5) (eC (.int 7919)))))) (eC (.int 11)))) aNil))) (eC (.int 2147483647)))))
  (sSeq (sSet 8 (ed (e2 fMod (ed (eA fInt (aCons (ed (e2 fAdd (ed (e2 fAdd (ed (e2 fMulA (eVar 4) (eVar 4))) (ed (e2 fMulA (eC (.int 31)) (eVar 4))))) (eVar 5))) aNil))) (eC (.int 1000003)))))
  (sIf (eTB (e2 fGe (eVar 7) (ed (e2 fPow (eC (.int 10)) (eC (.int 18)))))) (sSeq (sX (ed (eM "list" fAppend (eVar 3) (aCons (ed (e2 fMod (ed (eA fInt (aCons (eVar 7) aNil))) (eC (.int 1000)))) aNil))))
  (sPut (eVar 2) (eVar 6) (ed (e2 fDiv (eVar 7) (eC (.int 1000)))))) (sX (ed (eM "list" fAppend (eVar 3) (aCons (ed (e2 fMod (ed (eA fInt (aCons (eVar 8) aNil))) (eC (.int 1000)))) aNil))))))))) [5, 6, 7, 8] h.length (rngD 0 NN) [some (.ro ns), some (.int (NN : Int)), some (.ref c), some (.ref f), some (.int 12345), none, none, none, none] H)
          (fun r => ∃ s H', r = .next s H' ∧ DrI NN h (.ro ns) c f NN s H') := by
      intro c f H i0
      refine W_range _ (DrI NN h (.ro ns) c f) i0 ?_ (fun s H i => ⟨_, _, rfl, i⟩)
      rintro k s H hk ⟨cells, found, mixed, hc, hf, cf, m0, m1, cn, cl, fl, rfl, hC, hF, hkp⟩
      refine ⟨_, _, rfl, ?_⟩
      have hpos : 0 < cells.length := List.length_pos_iff.mpr cn
      have ej : ((k : Int) % (cells.length : Int)) = ((k % cells.length : Nat) : Int) := by simp
      have hj : k % cells.length < cells.length := Nat.mod_lt _ hpos
      have hC' : H[c]? = some (.lst (cells.map .int)) := hC
      have hF' : H[f]? = some (.lst (found.map .int)) := hF
      have ix : fIx (.ref c) (.int ((k % cells.length : Nat) : Int)) H = .ok (.v (.int cells[k % cells.length])) H := fIx_q (ds := cells.map .int) (by rw [asQ_ref', hC']) rfl (by rw [List.getElem?_map, List.getElem?_eq_getElem hj]; rfl)
      have hll : found.length < sizeLine := szl (by omega)
      generalize cells[k % cells.length] = cell at *
      generalize k % cells.length = j at *
      simp only [W_seq]
      have st6 : ∀ (sl : Sl), ed (e2 fMod (eVar 5) (ed (eA fLen (aCons (eVar 2) aNil)))) ⟨h.length, [some (.ro ns), some (.int (NN : Int)), some (.ref c), some (.ref f), some (.int mixed), some (.int (k : Int)), none, none, none]⟩ H = .ok (.int (j : Int)) H := fun _ => by
        simp [hC', hpos, ej]
      simp only [W_seq, sSet_eq, sE_eq, tN_eq, st6 [], W_th_next, List.set_cons_succ, List.set_cons_zero]
      have st7 : ed (e2 fIx (eVar 2) (eVar 6)) ⟨h.length, [some (.ro ns), some (.int (NN : Int)), some (.ref c), some (.ref f), some (.int mixed), some (.int (k : Int)), some (.int (j : Int)), none, none]⟩ H = .ok (.int cell) H := by
        simp [ix]
      simp only [W_seq, sSet_eq, sE_eq, st7, W_th_next, List.set_cons_succ, List.set_cons_zero]
      rw [mixE rfl rfl rfl (small64 (by decide) (by decide)) (by decide) (small64 (by decide) (by decide)) (small64 (by decide) (by decide)) (by decide)]
      obtain ⟨M, hM, M0, M1⟩ : ∃ M, (mixed * 48271 + cell % 1000003 * 69621 + (k : Int) * 7919 + 11) % 2147483647 = M ∧ 0 ≤ M ∧ M < 2147483647 := ⟨_, rfl, Int.emod_nonneg _ (by decide), Int.emod_lt_of_pos _ (by decide)⟩
      rw [hM]
      simp only [W_seq, sSet_eq, sE_eq, W_th_next, List.set_cons_succ, List.set_cons_zero]
      rw [againE rfl rfl (small64 (by omega) (by omega)) (by decide)]
      obtain ⟨N, hN⟩ : ∃ N, (M * M + 31 * M + (k : Int)) % 1000003 = N := ⟨_, rfl⟩
      rw [hN]
      simp only [W_th_next, List.set_cons_succ, List.set_cons_zero, sIf_eq, sE_eq]
      obtain ⟨big, hbig⟩ := geE (bb := h.length) (s := [some (.ro ns), some (.int (NN : Int)), some (.ref c), some (.ref f), some (.int M), some (.int (k : Int)), some (.int (j : Int)), some (.int cell), some (.int N)]) (h := H) (p := 10) (q := 18) (x := cell) rfl (by decide)
      rw [hbig]
      cases big with
      | true =>
        have ep : ∀ u v : Int, fPut h.length (.ref c) (.int (j : Int)) (.int v) (H.set f (.lst (found.map .int ++ [.int u]))) = some ((H.set f (.lst (found.map .int ++ [.int u]))).set c (.lst ((cells.map .int).set j (.int v)))) := fun u v => fPut_lst hc (by simpa using hj) (by rw [get_set_ne (Ne.symm cf), hC'])
        simp [hF', hll, putO_own hf, ep]
        refine ⟨cells.set j (cell / 1000), found ++ [cell % 1000], M, hc, hf, cf, by omega, by omega, ?_, by simpa using cl, by simp [fl], rfl, ?_, ?_, ?_⟩
        · intro z
          have := congrArg List.length z
          simp at this
          exact cn this
        · rw [get_set_self (by rw [List.length_set]; exact lt_of_get hC'), iL, List.map_set]
        · rw [get_set_ne cf, get_set_self (lt_of_get hF'), iL]
          simp
        · rw [take_set hc, take_set hf, hkp]
      | false =>
        simp [hF', hll, putO_own hf]
        refine ⟨cells, found ++ [N % 1000], M, hc, hf, cf, by omega, by omega, cn, cl, by simp [fl], rfl, ?_, ?_, ?_⟩
        · rw [get_set_ne (Ne.symm cf), hC]
        · rw [get_set_self (lt_of_get hF'), iL]
          simp
        · rw [take_set hf, hkp]
    have fin : ∀ (s : Sl) (H : Own) (c f : Nat), DrI NN h (.ro ns) c f NN s H → W (sSeq (sX (ed (eM "list" fReverse (eVar 3) aNil))) (sRet (ev (eVar 3))) ⟨h.length, s⟩ H) fun r => ∃ m o h1, r = .ret (.v (.ref m)) h1 ∧ h.length ≤ m ∧ h1[m]? = some o ∧ nrfO o = true ∧ notDead o = true ∧ ((∃ ds, o = iL ds) ∧ h1.take h.length = h) := by
      rintro s H c f ⟨cells, found, mixed, hc, hf, cf, m0, m1, cn, cl, fl, rfl, hC, hF, hkp⟩
      have hF' : H[f]? = some (.lst (found.map .int)) := hF
      have er : fReverse (.ref f) [] h.length H = .ok (.v .non) (H.set f (.lst (found.map .int).reverse)) := by
        unfold fReverse
        exact chL_eq hF' rfl (.inl hf)
      simp [hF', er]
      exact ⟨f, iL found.reverse, _, rfl, hf, by rw [get_set_self (lt_of_get hF'), iL, List.map_reverse], nrf_iL _, rfl, ⟨_, rfl⟩, by rw [take_set hf, hkp]⟩
    have s1 : (1 : Nat) ≤ sizeLine := by decide
    have r300 : R62 (NN : Int) := r62 (by omega)
    simp only [W_seq]
    by_cases hne : ns = []
    · subst hne
      simp [fListS, s1, sz 0, r300]
      refine W_imp (loop (h.length + 1) (h.length + 2) _ ⟨[7], [], 12345, by omega, by omega, by omega, by decide, by decide, by simp, by simp, rfl, rfl, ?_, ?_, ?_⟩) (fun r ⟨s, H', e, i⟩ => by rw [e]; exact fin s H' _ _ i)
      · simp [iL]
      · simp [iL]
      · simp
    · have nz : ¬ ((ns.length : Int) = 0) := by
        have := List.length_pos_iff.mpr hne
        omega
      simp [fListS, s1, sz 0, r300, nz, hne]
      refine W_imp (loop h.length (h.length + 1) _ ⟨ns, [], 12345, by omega, by omega, by omega, by decide, by decide, hne, by omega, rfl, rfl, ?_, ?_, ?_⟩) (fun r ⟨s, H', e, i⟩ => by rw [e]; exact fin s H' _ _ i)
      · simp [iL]
      · simp [iL]
      · simp
  obtain ⟨o, h1, ⟨⟨ds, rfl⟩, hk⟩, e⟩ := main
  exact ⟨ds, by rw [e, hk]⟩
end K78
set_option Elab.async false
set_option linter.all false
set_option maxRecDepth 100000
set_option maxHeartbeats 1000000
/-! the law's sameness. -/
namespace K78
open PySem PySem.Spec L2 Z
@[simp] theorem tyD_bl {h : Own} {i : Bool} : tyD h (.bl i) = some "bool" := rfl
@[simp] theorem tyD_lst {h : Own} {i : List Z.D} : tyD h (.lst i) = some "list" := rfl
@[simp] theorem isN_bl {b : Bool} : isN (.bl b) = false := rfl
@[simp] theorem isN_lst {z : List Z.D} : isN (.lst z) = false := rfl
@[simp] theorem isN_non : isN .non = true := rfl
theorem all_true (n : Nat) (h : Own) : fAll [.lst ((List.replicate n (Z.D.bl true)))] h = .ok (.v (.bl true)) h := by
  have := fAll_bls (List.replicate n true) h
  rw [List.map_replicate] at this
  rw [this]
  simp
theorem same_pl : ∀ (k : Nat) (d : Z.D), pln k d = true → ∀ h, callB (B__law_same k) [d, d] h = .ok (.v (.bl true)) h
  | 0, _, e, _ => by cases e
  | k + 1, d, e, h => by
    refine call_v rfl ?_
    show W (body 3 (S__law_same (B__law_same k)) _ _ _) _
    unfold body S__law_same
    simp only [W_seq]
    cases d with
    | non => simp; exact ⟨_, rfl, by simp⟩
    | bl b =>
      have k1 : kitB "bool" "bool" = some true := rfl
      simp [k1, fEq_bb]
      exact ⟨_, rfl, by simp⟩
    | int i =>
      have k1 : kitB "int" "bool" = some false := rfl
      have k2 : kitB "int" "int" = some true := rfl
      simp [k1, k2]
      exact ⟨_, rfl, by simp⟩
    | str z =>
      have k1 : kitB "str" "bool" = some false := rfl
      have k2 : kitB "str" "int" = some false := rfl
      have k3 : kitB "str" "str" = some true := rfl
      simp [k1, k2, k3, fEq_ss (show PyData.strOk z = true from e)]
      exact ⟨_, rfl, by simp⟩
    | tup ds =>
      have e' : (decide (ds.length ≤ 100000) && ds.all (pln k)) = true := e
      rw [Bool.and_eq_true, decide_eq_true_eq, List.all_eq_true] at e'
      obtain ⟨hl, hk⟩ := e'
      have k1 : kitB "tuple" "bool" = some false := rfl
      have k2 : kitB "tuple" "int" = some false := rfl
      have k3 : kitB "tuple" "str" = some false := rfl
      have k4 : kitB "tuple" "dict" = some false := rfl
      have k5 : kitB "tuple" "tuple" = some true := rfl
      have k6 : kitB "tuple" "list" = some false := rfl
      simp [k1, k2, k3, k4, k5, k6, fNe_bb, r62 (show ds.length ≤ 1000000 by omega)]
      rw [comp_range (fun _ => true) (fun _ => .bl true) ds.length]
      · have c := all_true ds.length h
        have e3 : (((List.range ds.length).filter fun _ => true).map fun _ => Z.D.bl true) = List.replicate ds.length (Z.D.bl true) := by rw [List.filter_eq_self.mpr (fun _ _ => rfl), List.map_const', List.length_range]
        rw [e3]
        simp [c]
        exact ⟨_, rfl, by simp⟩
      · intro j hj
        have ix : fIx (.tup ds) (.int (j : Int)) h = .ok (.v ds[j]) h := fIx_q (ds := ds) rfl rfl (List.getElem?_eq_getElem hj)
        have c := same_pl k ds[j] (hk _ (List.getElem_mem hj)) h
        generalize ds[j] = y at *
        refine ⟨_, rfl, by simp, fun _ => ?_⟩
        simp [ix, c]
      · exact sz _ (by omega)
    | lst ds =>
      have e' : (decide (ds.length ≤ 100000) && ds.all (pln k)) = true := e
      rw [Bool.and_eq_true, decide_eq_true_eq, List.all_eq_true] at e'
      obtain ⟨hl, hk⟩ := e'
      have k1 : kitB "list" "bool" = some false := rfl
      have k2 : kitB "list" "int" = some false := rfl
      have k3 : kitB "list" "str" = some false := rfl
      have k4 : kitB "list" "dict" = some false := rfl
      have k5 : kitB "list" "tuple" = some false := rfl
      have k6 : kitB "list" "list" = some true := rfl
      simp [k1, k2, k3, k4, k5, k6, fNe_bb, r62 (show ds.length ≤ 1000000 by omega)]
      rw [comp_range (fun _ => true) (fun _ => .bl true) ds.length]
      · have c := all_true ds.length h
        have e3 : (((List.range ds.length).filter fun _ => true).map fun _ => Z.D.bl true) = List.replicate ds.length (Z.D.bl true) := by rw [List.filter_eq_self.mpr (fun _ _ => rfl), List.map_const', List.length_range]
        rw [e3]
        simp [c]
        exact ⟨_, rfl, by simp⟩
      · intro j hj
        have ix : fIx (.lst ds) (.int (j : Int)) h = .ok (.v ds[j]) h := fIx_q (ds := ds) rfl rfl (List.getElem?_eq_getElem hj)
        have c := same_pl k ds[j] (hk _ (List.getElem_mem hj)) h
        generalize ds[j] = y at *
        refine ⟨_, rfl, by simp, fun _ => ?_⟩
        simp [ix, c]
      · exact sz _ (by omega)
    | _ => cases e
end K78
set_option Elab.async false
set_option linter.all false
set_option maxRecDepth 100000
set_option maxHeartbeats 2000000
/-! letters and words: what the defs of the text make of them. -/
namespace K78
open PySem PySem.Spec L2 Z TT
theorem _root_.Z.Dq.draw {h H : Own} {d n : Nat} (D : Dq h d H) (hn : 0 < n) : ∃ (r : Nat) (H' : Own), r < n ∧ callB B__law_take [.ref d, nD n] H = .ok (.v (nD r)) H' ∧ Dq h d H' ∧ H'.length = H.length ∧ ∀ i, i ≠ d → H'[i]? = H[i]? := Dq_draw D hn
abbrev aD (P : Nat) (L : List (List Nat)) : D := .obj 0 [nD P, .tup (L.map wD)]
/-- the places of a letter -/
def pl (L : List (List Nat)) (a : Nat) : List Nat := L.getD a []
/-- two letters share a place -/
def meet (L : List (List Nat)) (a b : Nat) : Bool := (pl L a).any fun p => has (pl L b) p
theorem pl_of {L : List (List Nat)} {a : Nat} (ha : a < L.length) : L[a]? = some (pl L a) := by
  unfold pl
  rw [List.getElem?_eq_getElem ha, List.getD_eq_getElem?_getD, List.getElem?_eq_getElem ha]; rfl
theorem ix_pl {L : List (List Nat)} {a : Nat} (h : Own) (ha : a < L.length) : fIx (.tup (L.map wD)) (nD a) h = .ok (.v (wD (pl L a))) h := ix_L h (pl_of ha)
theorem ix_pll {L : List (List Nat)} {a : Nat} (h : Own) (ha : a < L.length) : fIx (.lst (L.map wD)) (nD a) h = .ok (.v (wD (pl L a))) h := ix_Ll h (pl_of ha)
theorem independent_eq {P : Nat} {L : List (List Nat)} {a b : Nat} (ha : a < L.length) (hb : b < L.length) (h : Own) : callB B_independent [aD P L, nD a, nD b] h = .ok (.v (.bl (!meet L a b))) h := by
  refine call_v rfl ?_
  unfold B_independent body S_independent
  simp [aD, ix_pl _ ha, wD]
  refine W_list nD (pl L a) (fun k s h1 => s = [some (aD P L), some (nD a), some (nD b), none] ∧ h1 = h ∧ ((pl L a).take k).any (has (pl L b)) = false) ⟨rfl, rfl, rfl⟩ (fun _ _ _ _ _ => by simp) ?_ ?_
  · rintro k s h1 hk ⟨rfl, rfl, e⟩
    refine ⟨_, _, rfl, ?_⟩
    cases q : has (pl L b) (pl L a)[k] with
    | true =>
      have : meet L a b = true := by
        unfold meet
        exact List.any_eq_true.mpr ⟨_, List.getElem_mem hk, q⟩
      simp [aD, ix_pl _ hb, q, this, W, Th]
    | false =>
      simp [aD, ix_pl _ hb, q, clr, any_take_succ _ hk, e]
  · rintro s h1 ⟨rfl, rfl, e⟩
    have : meet L a b = false := by
      rw [List.take_length] at e
      exact e
    simp [Th, this, W]
def mk (m : Nat → Nat → Bool) (a : Nat) : Nat → Nat
  | 0 => 0
  | n + 1 => if m a n then mk m a n ||| 2 ^ n else mk m a n
theorem mk_bit (m : Nat → Nat → Bool) (a b : Nat) : ∀ n, (mk m a n).testBit b = (decide (b < n) && m a b)
  | 0 => by simp [mk]
  | n + 1 => by
    unfold mk
    by_cases h : m a n = true
    · rw [if_pos h, Nat.testBit_or, mk_bit m a b n, Nat.testBit_two_pow]
      by_cases e : n = b
      · subst e
        simp [h]
      · simp [e]
        by_cases h2 : b < n
        · simp [h2, Nat.lt_succ_of_lt h2]
        · simp [h2, show ¬ b < n + 1 by omega]
    · rw [if_neg h, mk_bit m a b n]
      by_cases e : n = b
      · subst e
        simp [h]
      · by_cases h2 : b < n
        · simp [h2, Nat.lt_succ_of_lt h2]
        · simp [h2, show ¬ b < n + 1 by omega]
def ms (L : List (List Nat)) : List Nat := (List.range L.length).map fun a => mk (meet L) a L.length
theorem masks_eq {P : Nat} {L : List (List Nat)} (hL : L.length ≤ 100) (h : Own) : callB B_masks [aD P L] h = .ok (.n (.lst ((ms L).map nD))) h := by
  refine call_r (by rw [nrfO, nrf_nDs]) rfl ?_
  unfold B_masks body S_masks
  simp [aD, r62 (show L.length ≤ 1000000 by omega), sz 0]
  refine W_range _ (fun k s h1 => s = [some (aD P L), some (.ref h.length), none, none, none] ∧ h1 = h ++ [.lst (((List.range k).map fun a => mk (meet L) a L.length).map nD)]) ⟨rfl, rfl⟩ ?_ ?_
  · rintro k s h1 hk ⟨rfl, rfl⟩
    refine ⟨_, _, rfl, ?_⟩
    simp [aD, r62 (show L.length ≤ 1000000 by omega)]
    refine W_range _ (fun j s h1 => s = [some (aD P L), some (.ref h.length), some (nD k), some (nD (mk (meet L) k j)), none] ∧ h1 = h ++ [.lst (((List.range k).map fun a => mk (meet L) a L.length).map nD)]) ⟨rfl, by simp⟩ ?_ ?_
    · rintro j s h1 hj ⟨rfl, rfl⟩
      refine ⟨_, _, rfl, ?_⟩
      have e1 : ∀ h, callB B_independent [aD P L, nD k, nD j] h = _ := independent_eq (P := P) hk hj
      have e2 := bor_nat (mk (meet L) k j) (2 ^ j)
      simp only [Int.natCast_pow] at e2
      cases q : meet L k j with
      | true => simp [e1, q, clr, mk, show (j : Int) ≤ 1000000 by omega, show Builtin.bitOr ((mk (meet L) k j : Nat) : Int) (2 ^ j) = _ from e2]
      | false => simp [e1, q, clr, mk]
    · rintro s h1 ⟨rfl, rfl⟩
      simp [clr, List.range_succ, szl (show k ≤ 1000000 by omega)]
  · rintro s h1 ⟨rfl, rfl⟩
    simp
    exact ⟨_, _, rfl, Nat.le_refl _, by simp [ms], by simp⟩
theorem ms_at {L : List (List Nat)} {a : Nat} (ha : a < L.length) : (ms L)[a]? = some (mk (meet L) a L.length) := by
  simp [ms, ha]
structure Fine (L : List (List Nat)) : Prop where
  len : L.length ≤ 100
  pos : 0 < L.length
structure Fit (L : List (List Nat)) (w : List Nat) : Prop where
  len : w.length ≤ 1000
  mem : ∀ x ∈ w, x < L.length
theorem Fit.at {L : List (List Nat)} {w : List Nat} (f : Fit L w) {k : Nat} (hk : k < w.length) : w[k] < L.length := f.mem _ (List.getElem_mem hk)
theorem first_letters_eq {P : Nat} {L : List (List Nat)} {w : List Nat} {d : D} (FL : Fine L) (fw : Fit L w) (h : Own) (hd : ∀ l, asQ (h ++ l) d = some (w.map nD)) :
    callB B_first_letters [aD P L, d] h = .ok (.n (.lst ((fl (meet L) w).map nD))) h := by
  have hl := fw.len
  refine call_r (by rw [nrfO, nrf_nDs]) rfl ?_
  unfold B_first_letters body S_first_letters
  simp [sz 0, masks_eq FL.len, fLen_q (hd _), r62 (show w.length ≤ 1000000 by omega)]
  refine W_range _ (fun k s h1 => ∃ bl : Nat, s = [some (aD P L), some d, some (.ref h.length), some (nD bl), some (.lst ((ms L).map nD)), none] ∧ h1 = h ++ [.lst (((List.range k).filter (minAt (meet L) w)).map nD)] ∧ ∀ b, b < L.length → bl.testBit b = (w.take k).any fun x => meet L x b) ⟨0, rfl, rfl, fun b _ => by simp⟩ ?_ ?_
  · rintro k s h1 hk ⟨bl, rfl, rfl, hb⟩
    refine ⟨_, _, rfl, ?_⟩
    have e1 := fw.at hk
    have e2 : ∀ l, fIx d (nD k) (h ++ l) = .ok (.v (nD w[k])) (h ++ l) := fun l => ix_q _ (hd l) (by rw [List.getElem?_eq_getElem hk])
    have e3 : ∀ h1, fIx (.lst ((ms L).map nD)) (nD w[k]) h1 = .ok (.v (nD (mk (meet L) w[k] L.length))) h1 := fun h1 => ix_q h1 rfl (ms_at e1)
    have e4 := hb _ e1
    have hmin : minAt (meet L) w k = !bl.testBit w[k] := by
      rw [e4, minAt, getD_at hk, List.not_any_eq_all_not]
    have hlen : ((List.range k).filter (minAt (meet L) w)).length < sizeLine := szl (Nat.le_trans (List.length_filter_le _ _) (by simp; omega))
    have e5 := bor_nat bl (mk (meet L) w[k] L.length)
    have next : ∀ b, b < L.length → (bl ||| mk (meet L) w[k] L.length).testBit b = (w.take (k + 1)).any fun x => meet L x b := by
      intro b hbl
      rw [Nat.testBit_or, mk_bit, any_take_succ _ hk, hb b hbl]
      simp [hbl]
    cases q : bl.testBit w[k] with
    | true => 
      simp [e2, e3, shr_bit, q, clr, e5, range_filter_succ, hmin]
      exact ⟨_, rfl, next⟩
    | false =>
      simp [e2, e3, shr_bit, q, clr, e5, range_filter_succ, hmin, hlen]
      exact ⟨_, rfl, next⟩
  · rintro s h1 ⟨bl, rfl, rfl, hb⟩
    simp
    exact ⟨_, _, rfl, Nat.le_refl _, by simp [fl], by simp⟩
theorem ix_of {L : List (List Nat)} {w : List Nat} {k : Nat} {H : Own} {d : D} (hd : asQ H d = some (w.map nD)) (hk : k < w.length) : fIx d (nD k) H = .ok (.v (nD (w.getD k 0))) H := ix_q _ hd (by rw [getD_at hk, List.getElem?_eq_getElem hk])
theorem map_erase (w : List Nat) (k : Nat) : (w.map nD).eraseIdx k = (w.eraseIdx k).map nD := by
  induction w generalizing k with
  | nil => rfl
  | cons a w ih => cases k with
    | zero => rfl
    | succ k => simp [List.eraseIdx_cons_succ, ih]
theorem Fit.sub {L : List (List Nat)} {w v : List Nat} (f : Fit L w) (hl : v.length ≤ w.length) (hm : ∀ x ∈ v, x ∈ w) : Fit L v := ⟨Nat.le_trans hl f.len, fun x hx => f.mem x (hm x hx)⟩
theorem Fit.erase {L : List (List Nat)} {w : List Nat} (f : Fit L w) (k : Nat) : Fit L (w.eraseIdx k) := f.sub (List.length_eraseIdx_le _ _) fun x hx => List.mem_of_mem_eraseIdx hx
theorem Fit.least {L : List (List Nat)} {w : List Nat} {m : Nat → Nat → Bool} (f : Fit L w) : Fit L (least m w) := f.sub (by rw [least_len]; exact Nat.le_refl _) fun x hx => least_mem hx
theorem pos1_lt (o : Option Nat) : (pos1 o < 0) = (o = none) := by
  cases o with
  | none => simp [pos1]
  | some k => simp [pos1]
theorem lf_step {m : Nat → Nat → Bool} {w : List Nat} {k n : Nat} (e : best m w = some k) : lf m (n + 1) w = w.getD k 0 :: lf m n (w.eraseIdx k) := by
  rw [lf, e]
theorem least_form_eq {P : Nat} {L : List (List Nat)} {w : List Nat} {d : D} (FL : Fine L) (fw : Fit L w) (h : Own) (hd : ∀ l, asQ (h ++ l) d = some (w.map nD)) :
    callB B_least_form [aD P L, d] h = .ok (.v (wD (least (meet L) w))) h := by
  have hl := fw.len
  have hd0 : asQ h d = some (w.map nD) := by simpa using hd []
  refine call_v (by simp) ?_
  unfold B_least_form body S_least_form
  simp [sz 0, fList_q hd0]
  refine W_wh (fun M s h1 => ∃ r f : List Nat, M = r.length ∧ r.length + f.length ≤ 1000 ∧ Fit L r ∧ s = [some (aD P L), some d, some (.ref h.length), some (.ref (h.length + 1)), none, none] ∧ h1 = h ++ [.lst (r.map nD), .lst (f.map nD)] ∧ f ++ lf (meet L) r.length r = least (meet L) w) ?_ wMax w.length _ _ (by unfold wMax; omega) ⟨w, [], rfl, by simpa using hl, fw, rfl, rfl, rfl⟩
  rintro M s h1 ⟨r, f, rfl, hrf, fr, rfl, rfl, e⟩
  refine ⟨decide (0 < r.length), h ++ [.lst (r.map nD), .lst (f.map nD)], by simp, ?_, ?_⟩
  · intro hk
    have : r = [] := by
      cases r with
      | nil => rfl
      | cons x xs => simp at hk
    subst this
    have e' : f = least (meet L) w := by simpa [lf] using e
    simp [W, e']
  · intro hk
    have hr : r ≠ [] := by
      rintro rfl
      simp at hk
    obtain ⟨k, hb, hkf, hmin⟩ := best_some (m := meet L) hr
    have hkl := fl_lt hkf
    have hrl : r.length = (r.length - 1) + 1 := by
      have := List.length_pos_iff.mpr hr
      omega
    refine ⟨r.length - 1, hrl, ?_⟩
    have hfl : ∀ l, asQ ((h ++ [.lst (r.map nD), .lst (f.map nD)]) ++ l) (.ref h.length) = some (r.map nD) := fun l => by simp
    have efl := first_letters_eq (P := P) FL fr (h ++ [.lst (r.map nD), .lst (f.map nD)]) hfl
    simp [efl]
    refine W_list nD (fl (meet L) r) (fun j s h1 => s = [some (aD P L), some d, some (.ref h.length), some (.ref (h.length + 1)), some (.int (pos1 (((fl (meet L) r).take j).foldl (bst r) none))), none] ∧ h1 = h ++ [.lst (r.map nD), .lst (f.map nD)] ∧ ∀ z, ((fl (meet L) r).take j).foldl (bst r) none = some z → z < r.length) ⟨by simp [pos1], rfl, fun z hz => by simp at hz⟩ (fun _ _ _ _ _ => by simp) ?_ ?_
    · rintro j s h1 hj ⟨rfl, rfl, hlt⟩
      refine ⟨_, _, rfl, ?_⟩
      have hjl : (fl (meet L) r)[j] < r.length := fl_lt (List.getElem_mem hj)
      have ix : ∀ k, k < r.length → fIx (.ref h.length) (nD k) (h ++ [.lst (r.map nD), .lst (f.map nD)]) = .ok (.v (nD (r.getD k 0))) _ := fun k hk => ix_of (L := L) (by simp) hk
      rw [List.take_succ_eq_append_getElem hj, List.foldl_append]
      generalize hF : ((fl (meet L) r).take j).foldl (bst r) none = o at hlt
      generalize (fl (meet L) r)[j] = y at hjl
      cases o with
      | none =>
        simp [pos1, clr, bst]
        exact hjl
      | some z =>
        have hz := hlt z rfl
        have e1 := ix _ hjl
        have e2 := ix _ hz
        have nz : ¬ ((z : Int) < 0) := by omega
        have hb2 : bst r (some z) y = if r.getD y 0 < r.getD z 0 then some y else some z := rfl
        generalize r.getD y 0 = ry at *
        generalize r.getD z 0 = rz at *
        by_cases hc : ry < rz
        · rw [if_pos hc] at hb2
          simp [pos1, clr, hb2, e1, e2, hc, nz]
          exact hjl
        · rw [if_neg hc] at hb2
          simp [pos1, clr, hb2, e1, e2, hc, nz]
          exact hz
    · rintro s h1 ⟨rfl, rfl, hlt⟩
      rw [List.take_length]
      have hb' : (fl (meet L) r).foldl (bst r) none = some k := hb
      rw [hb']
      have e3 : fPopAt (.ref h.length) [.int (pos1 (some k))] h.length (h ++ [.lst (r.map nD), .lst (f.map nD)]) = .ok (.v (nD (r.getD k 0))) _ := fPopAt_eq (k := k) (ds := r.map nD) (by simp) rfl (by omega) (by rw [List.getElem?_map, List.getElem?_eq_getElem hkl, getD_at hkl]; rfl) (.inl (Nat.le_refl _))
      simp [e3, clr, szl (show f.length ≤ 1000000 by omega)]
      refine ⟨(r.eraseIdx k).length, by rw [List.length_eraseIdx]; simp [hkl], r.eraseIdx k, rfl, f ++ [r.getD k 0], ?_, fr.erase k, ?_, ?_⟩
      · rw [List.length_eraseIdx]; simp [hkl]; omega
      · simp [map_erase]
      · rw [hrl, lf_step hb] at e
        rw [← e]
        simp [List.length_eraseIdx, hkl]
def pw (L : List (List Nat)) (p : Nat) (w : List Nat) : List Nat := w.filter fun x => has (pl L x) p
theorem place_word_eq {P : Nat} {L : List (List Nat)} {w : List Nat} {p : Nat} (fw : Fit L w) (h : Own) : callB B_place_word [aD P L, wD w, nD p] h = .ok (.v (wD (pw L p w))) h := by
  refine call_v (by simp) ?_
  unfold B_place_word body S_place_word
  simp
  rw [comp_pure nD (fun x => has (pl L x) p) nD (by simp) w []]
  · simp
    exact ⟨_, rfl, by simp⟩
  · intro a ha
    refine ⟨_, rfl, ?_, ?_⟩
    · simp [ix_pl _ (fw.mem a ha)]
    · intro _
      simp
  · exact sz _ (by have := fw.len; simp; omega)
theorem equivalent_eq {P : Nat} {L : List (List Nat)} {u v : List Nat} (hP : P ≤ 100) (fu : Fit L u) (fv : Fit L v) (h : Own) (he : ∀ p, p < P → pw L p u = pw L p v) : callB B_equivalent [aD P L, wD u, wD v] h = .ok (.v (.bl true)) h := by
  refine call_v rfl ?_
  unfold B_equivalent body S_equivalent
  simp [r62 (show P ≤ 1000000 by omega)]
  refine W_range _ (fun k s h1 => s = [some (aD P L), some (wD u), some (wD v), none] ∧ h1 = h) ⟨rfl, rfl⟩ ?_ ?_
  · rintro k s h1 hk ⟨rfl, rfl⟩
    refine ⟨_, _, rfl, ?_⟩
    have c1 := place_word_eq (P := P) (p := k) fu h1
    have c2 := place_word_eq (P := P) (p := k) fv h1
    rw [he k hk] at c1
    have c3 := fNe_w (pw L k v) (pw L k v) h1
    simp only [decide_true, Bool.not_true] at c3
    simp [c1, c2, c3]
  · rintro s h1 ⟨rfl, rfl⟩
    simp
    exact ⟨_, rfl, by simp⟩
def lD (L : List (List Nat)) : D := .lst (L.map wD)
@[simp] theorem nrf_lD (L : List (List Nat)) : nrf (lD L) = true := by rw [lD, nrf, nrf_wDs]
theorem law_meet_eq {L : List (List Nat)} {a b : Nat} (hp : ∀ l ∈ L, l.length ≤ 100) (ha : a < L.length) (hb : b < L.length) (h : Own) : callB B__law_meet [lD L, nD a, nD b] h = .ok (.v (.bl (meet L a b))) h := by
  refine call_v rfl ?_
  unfold B__law_meet body S__law_meet
  simp [lD, ix_pll _ ha]
  rw [comp_pure nD (has (pl L b)) (fun _ => D.int 1) (by simp) (pl L a) []]
  · have e : decide (∃ x, x ∈ pl L a ∧ has (pl L b) x = true) = meet L a b := by
      unfold meet
      rw [Bool.eq_iff_iff]
      simp
    simp [e]
    exact ⟨_, rfl, by simp⟩
  · intro p hpp
    refine ⟨_, rfl, ?_, fun _ => by simp⟩
    simp [ix_pll _ hb]
  · have : pl L a ∈ L := by
      have := pl_of ha
      exact List.mem_of_getElem? this
    exact sz _ (by have := hp _ this; simp; omega)
/-- what a drawn letter is -/
structure Lett (P : Nat) (l : List Nat) : Prop where
  ne : l ≠ []
  lt : ∀ x ∈ l, x < P
  so : l.Pairwise (· < ·)
  sh : l.length ≤ 10
structure Alph (P : Nat) (L : List (List Nat)) : Prop where
  p1 : 1 ≤ P
  p2 : P ≤ 4
  l1 : 1 ≤ L.length
  l2 : L.length ≤ 5
  le : ∀ l ∈ L, Lett P l
theorem fSorted_kd {H : Own} {n : Nat} {cs : List Nat} (nd : cs.Nodup) (hl : cs.length ≤ 10) (e : H[n]? = some (.dK (kd cs))) : ∃ l : List Nat, fSorted [.ref n] H = .ok (.n (.lst (l.map nD))) H ∧ l.Perm cs ∧ l.Pairwise (· < ·) := by
  obtain ⟨l, e1, e2, e3⟩ := isort_nat cs nd
  refine ⟨l, ?_, e2, e3⟩
  have k1 : (kd cs).map (·.1) = (cs.map fun c : Nat => (c : Int)).map Sum.inl := by unfold kd; simp
  have hI : fSortI [.ref n] H = .stuck := by
    unfold fSortI asL
    simp [e]
  have hD : fSortD [.ref n] H = .ok (.n (.lst ((isort (cs.map fun c : Nat => (c : Int))).map .int))) H := by
    unfold fSortD asD
    simp only [e, k1, keyI_map]
    rw [if_pos (by simp; omega)]
  show (match fSortI [.ref n] H with | .stuck => fSortD [.ref n] H | z => z) = _
  rw [hI]
  dsimp only
  rw [hD, e1, List.map_map]
  rfl
theorem fPut_kd {H : Own} {b n : Nat} {cs : List Nat} {c : Nat} (hb : b ≤ n) (hl : cs.length ≤ 10) (e : H[n]? = some (.dK (kd cs))) : fPut b (.ref n) (nD c) (.bl true) H = some (H.set n (.dK (kd (if c ∈ cs then cs else cs ++ [c])))) := by
  unfold fPut
  simp only [e, asK_int]
  have hk : (kd cs).length < sizeLine := by unfold kd; rw [List.length_map]; exact szl (by omega)
  rw [if_pos hk, putO_own hb, putD_kd]
/-- the outer loop of _law_alphabet -/
inductive AlI (h : Own) (d P : Nat) (k : Nat) (s : Sl) (H : Own) : Prop
  | mk (L : List (List Nat)) (D : Dq h d H) (len : L.length = k) (le : ∀ l ∈ L, Lett P l) (hs : s = [some (.ref d), some (.int 4), some (.int 5), some (nD P), some (.ref h.length), none, none, none]) (hH : H[h.length]? = some (.lst (L.map wD)))
/-- the inner loop -/
inductive AlJ (h : Own) (d P k n : Nat) (L : List (List Nat)) (j : Nat) (s : Sl) (H : Own) : Prop
  | mk (cs : List Nat) (D : Dq h d H) (hn : h.length < n) (len : cs.length ≤ j + 1) (ne : cs ≠ []) (nd : cs.Nodup) (lt : ∀ x ∈ cs, x < P) (hs : s = [some (.ref d), some (.int 4), some (.int 5), some (nD P), some (.ref h.length), some (nD k), some (.ref n), none])
    (hH : H[h.length]? = some (.lst (L.map wD))) (hC : H[n]? = some (.dK (kd cs)))
theorem law_alphabet_eq {h : Own} {d : Nat} {ds : List Int} (hd : Dr h d ds) : ∃ P L ds', Alph P L ∧ callB B__law_alphabet [.ref d, .int 4, .int 5] h = .ok (.v (.tup [nD P, lD L])) (h.set d (iL ds')) := by
  have main : ∃ dd h1, (∃ P L, dd = .tup [nD P, lD L] ∧ Alph P L ∧ Dq h d h1) ∧ callB B__law_alphabet [.ref d, .int 4, .int 5] h = .ok (.v dd) (h1.take h.length) := by
    refine call_x ?_
    have dlt : d < h.length := lt_of_get hd
    obtain ⟨r, H1, hr, e1, D1, l1, k1⟩ := (Dq.refl hd).draw (n := 4) (by decide)
    have e1' : callB B__law_take [.ref d, .int 4] h = .ok (.v (nD r)) H1 := e1
    obtain ⟨P, hP, hP2⟩ : ∃ P : Nat, (1 + (r : Int)) = (P : Int) ∧ P = r + 1 := ⟨r + 1, by omega, rfl⟩
    obtain ⟨r2, H2, hr2, e2, D2, l2, k2⟩ := (D1.push (.lst [])).draw (n := 5) (by decide)
    have e2' : callB B__law_take [.ref d, .int 5] (H1 ++ [.lst []]) = .ok (.v (nD r2)) H2 := e2
    have en : ((1 : Int) + (r2 : Int)).toNat = r2 + 1 := by omega
    have er : R62 (1 + (r2 : Int)) := r62i (by omega) (by omega)
    unfold B__law_alphabet body S__law_alphabet
    simp only [W_seq]
    simp [e1', hP, l1, sz 0, e2', en, er]
    have hHL : H2[h.length]? = some (.lst (([] : List (List Nat)).map wD)) := by
      rw [k2 _ (by omega), ← l1]
      simp
    refine W_range _ (AlI h d P) ⟨[], D2, rfl, (fun l hl => by cases hl), rfl, hHL⟩ ?_ ?_
    · rintro k s H hk ⟨L, D, hlen, hle, rfl, hH⟩
      refine ⟨_, _, rfl, ?_⟩
      have hPpos : 0 < P := by omega
      obtain ⟨c, H3, hc, e3, D3, l3, k3⟩ := D.draw hPpos
      obtain ⟨r4, H4, hr4, e4, D4, l4, k4⟩ := (D3.push (.dK (kd [c]))).draw (n := 3) (by decide)
      have e4' : callB B__law_take [.ref d, .int 3] (H3 ++ [.dK (kd [c])]) = .ok (.v (nD r4)) H4 := e4
      have em : mergeD [] [((Sum.inl (c : Int) : Key), Z.D.bl true)] = kd [c] := rfl
      simp only [W_seq]
      simp [e3, em, e4', r62 (show r4 ≤ 1000000 by omega)]
      have hlt : h.length < H3.length := by rw [l3]; exact lt_of_get hH
      have hdn : H3.length ≠ d := by have := D3.le; omega
      refine W_range _ (AlJ h d P k H3.length L) ⟨[c], D4, hlt, by simp, by simp, by simp, by simpa using hc, rfl, ?_, ?_⟩ ?_ ?_
      · rw [k4 _ (by omega)]
        apply get_push
        rw [k3 _ (by omega), hH]
      · rw [k4 _ hdn]
        simp
      · rintro j s H hj ⟨cs, D5, hn, lcs, necs, ndcs, ltcs, rfl, hH5, hC5⟩
        refine ⟨_, _, rfl, ?_⟩
        obtain ⟨c2, H6, hc2, e6, D6, l6, k6⟩ := D5.draw hPpos
        have hC6 : H6[H3.length]? = some (.dK (kd cs)) := by rw [k6 _ hdn, hC5]
        have hH6 : H6[h.length]? = some (.lst (L.map wD)) := by rw [k6 _ (by omega), hH5]
        have ep := fPut_kd (c := c2) (b := h.length) (by omega) (by omega) hC6
        simp [e6, ep]
        refine ⟨if c2 ∈ cs then cs else cs ++ [c2], D6.set (by omega) _, hn, ?_, ?_, ?_, ?_, rfl, ?_, get_set_self (lt_of_get hC6)⟩
        · split
          · omega
          · simp; omega
        · split
          · exact necs
          · simp
        · split
          · exact ndcs
          · rename_i hnot
            rw [List.nodup_append]
            refine ⟨ndcs, by simp, ?_⟩
            intro a ha b hb e
            rw [List.mem_singleton] at hb
            subst hb
            subst e
            exact hnot ha
        · intro x hx
          split at hx
          · exact ltcs x hx
          · rcases List.mem_append.mp hx with hx | hx
            · exact ltcs x hx
            · rw [List.mem_singleton] at hx; subst hx; exact hc2
        · rw [get_set_ne (by omega), hH6]
      · rintro s H ⟨cs, D5, hn, lcs, necs, ndcs, ltcs, rfl, hH5, hC5⟩
        obtain ⟨l, es, hp, hso⟩ := fSorted_kd ndcs (by omega) hC5
        have hll : L.length < sizeLine := szl (by omega)
        simp [es, hH5, hll, putO_own (Nat.le_refl _)]
        refine ⟨L ++ [l], D5.set (Nat.le_refl _) _, by simp [hlen], ?_, rfl, ?_⟩
        · intro z hz
          rcases List.mem_append.mp hz with hz | hz
          · exact hle z hz
          · rw [List.mem_singleton] at hz
            subst hz
            refine ⟨?_, fun x hx => ltcs x (hp.mem_iff.mp hx), hso, by rw [hp.length_eq]; omega⟩
            rintro rfl
            exact necs (List.nil_perm.mp hp)
        · rw [get_set_self (lt_of_get hH5)]
          simp
    · rintro s H ⟨L, D, hlen, hle, rfl, hH⟩
      have s2 : (2 : Nat) ≤ sizeLine := by decide
      simp [hH, s2]
      refine ⟨.tup [nD P, lD L], _, rfl, by simp [nrf, nrfs], P, L, rfl, ⟨by omega, by omega, by omega, by omega, hle⟩, D.set (Nat.le_refl _) _⟩
  obtain ⟨dd, h1, ⟨P, L, rfl, hA, D⟩, e⟩ := main
  obtain ⟨ds', ec⟩ := D.cut
  exact ⟨P, L, ds', hA, by rw [e, ec]⟩
theorem fits_eq {P : Nat} {l : List Nat} (hl : Lett P l) (h : Own) : callB B_fits [wD l, nD P] h = .ok (.v (.bl true)) h := by
  refine call_v rfl ?_
  have h0 := hl.sh
  have hne : l ≠ [] := hl.ne
  have nz : ¬ ((l.length : Int) = 0) := by
    have := List.length_pos_iff.mpr hne
    omega
  unfold B_fits body S_fits
  simp only [W_seq]
  simp [hne, r62 (show l.length ≤ 1000000 by omega)]
  refine W_range _ (fun k s h1 => s = [some (wD l), some (nD P), none] ∧ h1 = h) ⟨rfl, rfl⟩ ?_ ?_
  · rintro k s h1 hk ⟨rfl, rfl⟩
    refine ⟨_, _, rfl, ?_⟩
    have i1 : fIx (wD l) (nD k) h1 = _ := ix_of (L := []) (w := l) rfl hk
    have g1 : l.getD k 0 = l[k] := getD_at hk
    have hP := hl.lt _ (List.getElem_mem hk)
    rw [g1] at i1
    have n1 : ¬ ((l[k] : Int) < 0) := by omega
    have n2 : ¬ (P ≤ l[k]) := by omega
    by_cases k0 : k = 0
    · subst k0
      have i0 : fIx (wD l) (.int 0) h1 = .ok (.v (nD l[0])) h1 := i1
      generalize l[0] = y at *
      simp [i0, n1, n2]
    · have hk' : k - 1 < l.length := by omega
      have i2 : fIx (wD l) (nD (k - 1)) h1 = _ := ix_of (L := []) (w := l) rfl hk'
      have g2 : l.getD (k - 1) 0 = l[k - 1] := getD_at hk'
      rw [g2] at i2
      have ek : ((k : Int) - 1) = ((k - 1 : Nat) : Int) := by omega
      have hlt : l[k - 1] < l[k] := List.pairwise_iff_getElem.mp hl.so (k - 1) k hk' hk (by omega)
      have n3 : ¬ (l[k] ≤ l[k - 1]) := by omega
      have kp : 0 < k := by omega
      generalize l[k] = y at *
      generalize l[k - 1] = x at *
      simp [i1, n1, n2, ek, i2, n3, kp]
  · rintro s h1 ⟨rfl, rfl⟩
    simp
    exact ⟨_, rfl, by simp⟩
@[simp] theorem sAtt_eq {cs : List Nat} {i : Nat} {o x : ED} {τ : Fm} {h : Own} : sAtt cs i o x τ h = sE x (fun v τ h => sE o (fun d τ h => match fAtt cs i τ.b d v h with
  | some h1 => .next τ.s h1
  | none => .stuck) τ h) τ h := by
  unfold sAtt
  rfl
theorem init_eq {P : Nat} {L : List (List Nat)} (A : Alph P L) (h : Own) : ∃ s, B_Alphabet___init__ h.length [.ref h.length, nD P, lD L] (h ++ [.ins 0 []]) = .next s (h ++ [.ins 0 [nD P, .tup (L.map wD)]]) := by
  have main : W (B_Alphabet___init__ h.length [.ref h.length, nD P, lD L] (h ++ [.ins 0 []])) fun r => ∃ s, r = .next s (h ++ [.ins 0 [nD P, .tup (L.map wD)]]) := by
    have h1 := A.p1
    have h2 := A.p2
    have h3 := A.l1
    have h4 := A.l2
    unfold B_Alphabet___init__ body S_Alphabet___init__
    simp only [W_seq]
    simp [lD, show (1 : Int) ≤ P by omega, show (P : Int) ≤ 4 by omega, show (1 : Int) ≤ L.length by omega, show (L.length : Int) ≤ 6 by omega, show P ≤ 4 by omega, show 1 ≤ P by omega, show L.length ≤ 6 by omega, show 1 ≤ L.length by omega]
    refine W_list wD L (fun k s h1 => ∃ y, s = [some (.ref h.length), some (nD P), some (lD L), some (.bl true), y] ∧ h1 = h ++ [.ins 0 []]) ⟨_, rfl, rfl⟩ (fun _ _ _ _ _ => by simp) ?_ ?_
    · rintro k s h1 hk ⟨y, rfl, rfl⟩
      refine ⟨_, _, rfl, ?_⟩
      have c1 := fits_eq (A.le _ (List.getElem_mem hk)) (h ++ [.ins 0 []])
      simp [c1]
    · rintro s h1 ⟨y, rfl, rfl⟩
      simp only [Th_next, W_seq]
      have e1 : (h ++ [O.ins 0 []])[h.length]? = some (.ins 0 []) := by simp
      simp [fAtt, attD, lD]
      rw [comp_pure wD (fun _ => true) wD (by simp) L []]
      · have c4 : (L.filter fun _ => true) = L := by simp
        rw [c4]
        simp [fAtt, attD, W]
      · intro l hl
        refine ⟨_, rfl, ?_, ?_⟩
        · simp
        · intro _
          simp
      · exact sz _ (by simp; omega)
  exact main
/-- Alphabet(places, letters) -/
theorem mk_eq {P : Nat} {L : List (List Nat)} (A : Alph P L) {xs : EA} {τ : Fm} {h : Own} (hx : xs τ h = .ok [nD P, lD L] h) : eMk 0 3 B_Alphabet___init__ xs τ h = .ok (.n (.ins 0 [nD P, .tup (L.map wD)])) h := by
  obtain ⟨s, e⟩ := init_eq A h
  unfold eMk
  rw [hx]
  simp [e, nrf, nrfs]
end K78
set_option Elab.async false
set_option linter.all false
set_option maxRecDepth 100000
/-! Z34: to compute with methods, lambdas, calls of the law's own frame. -/
namespace Z
open PySem PySem.Spec L2
section
variable {τ : Fm} {h : Own} {c n i j k b : Nat} {G : BD} {xs : EA} {o x : ED} {cl : CL} {ds : List D} {d : D} {cs : List Nat} {g : F2} {T : Res R → Res R} {xe : EX}
@[simp] theorem eMeth_eq : eMeth cl c n G o xs τ h = (o τ h).bind fun d h1 => if isIns c h1 d = true then ((xs τ h1).bind fun ds h2 => if ds.length + 1 = n then cl τ.b G (d :: ds) h2 else .stuck) else .stuck := rfl
@[simp] theorem eCallC_eq : eCallC cl n G xs τ h = (xs τ h).bind fun ds h1 => if ds.length = n then cl τ.b G ds h1 else .stuck := rfl
@[simp] theorem clN_eq : clN b G ds h = callB G ds h := rfl
@[simp] theorem clK_eq : clK b G ds h = callK G ds h := rfl
@[simp] theorem clE_eq : clE b G ds h = callE b G ds h := rfl
@[simp] theorem isIns_obj {c' : Nat} {fs : List D} : isIns c h (.obj c' fs) = (c' == c) := rfl
@[simp] theorem isIns_ref : isIns c h (.ref n) = (match h[n]? with
    | some (.ins c' _) => c' == c
    | _ => false) := rfl
@[simp] theorem eMkK_eq : eMkK c n G xs τ h = (xs τ h).bind fun ds h1 => if ds.length + 1 = n then
  (match G h1.length (.ref h1.length :: ds) (h1 ++ [.ins c []]) with
  | .next _ h3 => .ok (.v (.ref h1.length)) h3
  | .exc k _ h3 => .exc k h3
  | _ => .stuck) else .stuck := rfl
@[simp] theorem eLam_eq : eLam j T xe τ h = if isTb h j = true then T (xe τ h) else .stuck := rfl
@[simp] theorem fFld_ref : fFld cs i (.ref n) h = (match h[n]? with
    | some (.ins c fs) => if c ∈ cs then (match fs[i]? with | some d => .ok (.v d) h | none => .stuck) else .stuck
    | _ => .stuck) := by
  unfold fFld
  rfl
@[simp] theorem sAtA_eq : sAtA cs i g o x τ h = sE o (fun d τ h => match fldG cs i d h with
  | some v => sE x (fun y τ h => sE (ed fun _ h => g v y h) (fun z τ h => match fAtt cs i τ.b d z h with
    | some h1 => .next τ.s h1
    | none => .stuck) τ h) τ h
  | none => .stuck) τ h := rfl
@[simp] theorem fldG_ref : fldG cs i (.ref n) h = (match h[n]? with
    | some (.ins c fs) => if c ∈ cs then fs[i]? else none
    | _ => none) := rfl
@[simp] theorem sPar3_eq : sPar3 i j k xs τ h = sE xs (fun ds τ h => match ds with
  | [x, y, z] => .next (((τ.s.set i (some x)).set j (some y)).set k (some z)) h
  | _ => .stuck) τ h := rfl
@[simp] theorem sPar_eq : sPar i j xs τ h = sE xs (fun ds τ h => match ds with
  | [x, y] => .next ((τ.s.set i (some x)).set j (some y)) h
  | _ => .stuck) τ h := rfl
@[simp] theorem sAtt_eq' : sAtt cs i o x τ h = sE x (fun v τ h => sE o (fun d τ h => match fAtt cs i τ.b d v h with
  | some h1 => .next τ.s h1
  | none => .stuck) τ h) τ h := rfl
@[simp] theorem fAtt_ref : fAtt cs i b (.ref n) d h = (match h[n]? with
    | some (.ins c fs) => if c ∈ cs ∧ fs.length < 1000 then (match attD i d fs with
      | some fs' => putO h b n (.ins c fs')
      | none => none) else none
    | _ => none) := by
  unfold fAtt
  rfl
@[simp] theorem fzr_lst : fzr b (.lst ds) h = .ok (.lst ds) h := rfl
@[simp] theorem tlTold_ok {c1 c2 : Nat} {r1 r2 : Str} {r : R} : tlTold c1 r1 c2 r2 (.ok r h) = .ok r h := rfl
@[simp] theorem tlTold_exc {c1 c2 : Nat} {r1 r2 : Str} : tlTold c1 r1 c2 r2 (.exc k h) = if k = c1 then .ok (.v (.str r1)) h else if k = c2 then .ok (.v (.str r2)) h else .stuck := rfl
@[simp] theorem tlCode_ok {b1 b2 : Bool} {r : R} : tlCode c b1 b2 (.ok r h) = .ok (.v (.bl b2)) h := rfl
@[simp] theorem tlCode_exc {b1 b2 : Bool} : tlCode c b1 b2 (.exc k h) = if k = c then .ok (.v (.bl b1)) h else .stuck := rfl
@[simp] theorem asK_str {s : Str} : asK (.str s) = some (Sum.inr s) := rfl
end
theorem isTb_of {h : Own} {j : Nat} (e : h[j]? = some (.tb j)) : isTb h j = true := by
  unfold isTb
  rw [e]
  simp
/-! ### calls -/
theorem callE_ret {G : BD} {as : List D} {h : Own} {P : R → Own → Prop} (e : W (G 0 as h) fun r => ∃ x h1, r = .ret x h1 ∧ P x h1) : ∃ x h1, callE 0 G as h = .ok x h1 ∧ P x h1 := by
  obtain ⟨x, h1, e, p⟩ := e
  refine ⟨x, h1, ?_, p⟩
  unfold callE
  rw [if_pos rfl, e]
theorem callE_next {G : BD} {as : List D} {h : Own} {P : Own → Prop} (e : W (G 0 as h) fun r => ∃ s h1, r = .next s h1 ∧ P h1) : ∃ h1, callE 0 G as h = .ok (.v .non) h1 ∧ P h1 := by
  obtain ⟨s, h1, e, p⟩ := e
  refine ⟨h1, ?_, p⟩
  unfold callE
  rw [if_pos rfl, e]
theorem callE_exc {G : BD} {as : List D} {h : Own} {c : Nat} {s : Sl} {h1 : Own} (e : G 0 as h = .exc c s h1) : callE 0 G as h = .exc c h1 := by
  unfold callE
  rw [if_pos rfl, e]
theorem call_next {G : BD} {as : List D} {h : Own} {P : Own → Prop} (e : W (G h.length as h) fun r => ∃ s h1, r = .next s h1 ∧ P h1) : ∃ h1, P h1 ∧ callB G as h = .ok (.v .non) (h1.take h.length) := by
  obtain ⟨s, h1, e, p⟩ := e
  refine ⟨h1, p, ?_⟩
  unfold callB
  rw [e]
  rfl
theorem call_exc {G : BD} {as : List D} {h : Own} {c : Nat} {s : Sl} {h1 : Own} (e : G h.length as h = .exc c s h1) : callB G as h = .exc c (h1.take h.length) := by
  unfold callB
  rw [e]
/-! ### dicts by texts -/
theorem fIx_key {H : Own} {m : Nat} {kvs : List (Key × D)} {s : Str} {v : D} (e : H[m]? = some (.dK kvs)) (g : getD kvs (Sum.inr s : Key) = some v) : fIx (.ref m) (.str s) H = .ok (.v v) H := by
  have h1 : fIxQ (.ref m) (.str s) H = .stuck := by
    unfold fIxQ asQ asL
    simp [e]
  have h2 : fIxS (.ref m) (.str s) H = .stuck := rfl
  have h3 : fIxD (.ref m) (.str s) H = .ok (.v v) H := by
    unfold fIxD askD asD
    simp [e, g]
  show (match fIxQ (.ref m) (.str s) H with | .stuck => _ | z => z) = _
  rw [h1]
  dsimp only
  show (match fIxS (.ref m) (.str s) H with | .stuck => fIxD (.ref m) (.str s) H | z => z) = _
  rw [h2]
  exact h3
theorem fPut_key {H : Own} {b m : Nat} {kvs : List (Key × D)} {s : Str} {v : D} (e : H[m]? = some (.dK kvs)) (hl : kvs.length ≤ 1000) (hp : b ≤ m ∨ subR (.dK (putD kvs (Sum.inr s : Key) v)) (.dK kvs) = true) :
    fPut b (.ref m) (.str s) v H = some (H.set m (.dK (putD kvs (Sum.inr s : Key) v))) := by
  unfold fPut
  simp only [e, asK_str]
  rw [if_pos (szl (by omega))]
  rcases hp with z | z
  · exact putO_own z
  · exact putO_sub e z
/-- a list's item, by a number that counts from behind -/
theorem fIx_last {H : Own} {d x : D} {xs : List D} (e : asQ H d = some (xs ++ [x])) : fIx d (.int (-1)) H = .ok (.v x) H := by
  show (match fIxQ d (.int (-1)) H with | .stuck => _ | z => z) = _
  have : atI (xs ++ [x]) (-1) = some x := by
    unfold atI ixN
    simp
    have : (-1 + ((xs.length : Int) + 1)).toNat = xs.length := by omega
    rw [this, if_pos (by omega), Option.bind_some, List.getElem?_append_right (Nat.le_refl _), Nat.sub_self]
    rfl
  unfold fIxQ
  rw [e]
  simp [this]
end Z
set_option Elab.async false
set_option linter.all false
set_option maxRecDepth 100000
set_option maxHeartbeats 2000000
/-! hands: the table and the law's own. -/
namespace K78
open PySem PySem.Spec L2 Z TT
abbrev Ev := Nat × Nat × Nat
abbrev evD (e : Ev) : Z.D := .tup [nD e.1, nD e.2.1, nD e.2.2]
/-- what a table holds -/
structure Md where
  rows : List (List Nat)
  evs : List Ev
  cnt : Nat
@[simp] theorem nrf_evs : ∀ es : List Ev, nrfs (es.map evD) = true
  | [] => rfl
  | _ :: es => by rw [List.map_cons, nrfs, nrf_evs es]; rfl
structure MdOk (hands nl R N : Nat) (m : Md) : Prop where
  rl : m.rows.length = hands
  rw : ∀ w ∈ m.rows, w.length ≤ R ∧ ∀ x ∈ w, x < nl
  ev : ∀ e ∈ m.evs, e.2.1 < hands ∧ e.2.2 < nl
  el : m.evs.length ≤ N
  cn : m.cnt ≤ N
def row (rows : List (List Nat)) (h : Nat) : List Nat := rows.getD h []
def bk1 (n : Nat) (rows : List (List Nat)) (e : Ev) : List (List Nat) := if e.1 = n then rows.set e.2.1 (row rows e.2.1 ++ [e.2.2]) else rows
def bk (m : Md) (n : Nat) : Md := ⟨m.evs.foldl (bk1 n) m.rows, m.evs.filter fun e => !decide (e.1 = n), m.cnt⟩
def stp (q : Nat → Nat → Bool) (n : Nat) (f : List Nat × List Nat) (e : Ev) : List Nat × List Nat := if decide (e.1 = n) || f.2.any (fun a => q a e.2.2) then (f.1 ++ [e.1], f.2 ++ [e.2.2]) else f
def rsts (q : Nat → Nat → Bool) (n : Nat) (es : List Ev) (k : Nat) : List Nat × List Nat := (es.take k).foldl (stp q n) ([], [])
def rst (q : Nat → Nat → Bool) (n : Nat) (es : List Ev) : List Nat := (rsts q n es es.length).1
theorem rsts_succ {q : Nat → Nat → Bool} {n : Nat} {es : List Ev} {k : Nat} (hk : k < es.length) : rsts q n es (k + 1) = stp q n (rsts q n es k) es[k] := by
  unfold rsts
  rw [List.take_succ_eq_append_getElem hk, List.foldl_append]
  rfl
theorem rsts_len {q : Nat → Nat → Bool} {n : Nat} {es : List Ev} : ∀ k, k ≤ es.length → (rsts q n es k).1.length ≤ k ∧ (rsts q n es k).2.length ≤ k
  | 0, _ => by simp [rsts]
  | k + 1, h => by
    have ih := rsts_len (q := q) (n := n) (es := es) k (by omega)
    rw [rsts_succ (by omega)]
    unfold stp
    split
    · simp; omega
    · omega
theorem rsts_mem {q : Nat → Nat → Bool} {n nl : Nat} {es : List Ev} (he : ∀ e ∈ es, e.2.2 < nl) : ∀ k, k ≤ es.length → ∀ x ∈ (rsts q n es k).2, x < nl
  | 0, _ => by simp [rsts]
  | k + 1, h => by
    have ih := rsts_mem (q := q) (n := n) (es := es) he k (by omega)
    rw [rsts_succ (by omega)]
    unfold stp
    split
    · intro x hx
      rcases List.mem_append.mp hx with z | z
      · exact ih x z
      · rw [List.mem_singleton.mp z]; exact he _ (List.getElem_mem _)
    · exact ih
def nums (m : Md) (h : Nat) : List Nat := (m.evs.filter fun e => decide (e.2.1 = h)).map (·.1)
def addE (m : Md) (h x : Nat) : Md := ⟨m.rows, m.evs ++ [(m.cnt, h, x)], m.cnt + 1⟩
/-- the table stands at t, its rows at r, its events at e -/
structure TS (H : Own) (t r e P : Nat) (L : List (List Nat)) (m : Md) : Prop where
  it : H[t]? = some (.ins 1 [aD P L, .ref r, .ref e, nD m.cnt])
  ir : H[r]? = some (.lst (m.rows.map wD))
  ie : H[e]? = some (.lst (m.evs.map evD))
  ne : r ≠ e
theorem TS.tr {H : Own} {t r e P : Nat} {L : List (List Nat)} {m : Md} (T : TS H t r e P L m) : t ≠ r := by
  rintro rfl
  have := T.it.symm.trans T.ir
  cases this
theorem TS.te {H : Own} {t r e P : Nat} {L : List (List Nat)} {m : Md} (T : TS H t r e P L m) : t ≠ e := by
  rintro rfl
  have := T.it.symm.trans T.ie
  cases this
theorem row_of {rows : List (List Nat)} {h : Nat} (hh : h < rows.length) : rows[h]? = some (row rows h) := by
  unfold row
  rw [List.getElem?_eq_getElem hh, List.getD_eq_getElem?_getD, List.getElem?_eq_getElem hh]
  rfl
section
variable {H : Own} {t r e P : Nat} {L : List (List Nat)} {m : Md}
theorem check_ok (T : TS H t r e P L m) {hand : Int} (h1 : 0 ≤ hand) (h2 : hand < m.rows.length) : callB B_Table__check [.ref t, .int hand] H = .ok (.v .non) H := by
  obtain ⟨h', e1, e2⟩ := call_next (G := B_Table__check) (as := [.ref t, .int hand]) (h := H) (P := fun h' => h' = H) (by
    unfold B_Table__check body S_Table__check
    simp [T.it, T.ir, h1, h2, W])
  subst e1
  rw [e2, List.take_length]
theorem check_no (T : TS H t r e P L m) {hand : Int} (h1 : ¬ (0 ≤ hand ∧ hand < m.rows.length)) : callB B_Table__check [.ref t, .int hand] H = .exc 3 H := by
  have key : ∃ s, B_Table__check H.length [.ref t, .int hand] H = .exc 3 s H := by
    unfold B_Table__check body S_Table__check
    by_cases z : 0 ≤ hand
    · have z2 : ¬ hand < m.rows.length := fun y => h1 ⟨z, y⟩
      simp [T.it, T.ir, z, z2]
    · simp [T.it, T.ir, z]
  obtain ⟨s, e1⟩ := key
  rw [call_exc e1, List.take_length]
theorem newest_eq (T : TS H t r e P L m) {h : Nat} (hl : m.evs.length ≤ 1000) : callB B_Table__newest [.ref t, nD h] H = match (nums m h).getLast? with
    | some n => .ok (.v (nD n)) H
    | none => .exc 2 H := by
  have cm : ∀ s : Sl, s = [some (.ref t), some (nD h), none, none, none, none] → compGo (some (e, .lst (m.evs.map evD))) (tTup (tCons (tN 3) (tCons (tN 4) (tCons (tN 5) tNil)))) (eTB (e2 fEq (eVar 4) (eVar 1))) (eVar 3) H.length s (m.evs.map evD) H [] = .ok (.n (.lst ((nums m h).map nD))) H := by
    rintro s rfl
    rw [comp_pure evD (fun v : Ev => decide (v.2.1 = h)) (fun v => nD v.1) (by intro n o z; cases z; exact T.ie) m.evs []]
    · unfold nums
      rw [List.map_map]
      rfl
    · intro v hv
      refine ⟨_, rfl, ?_, fun _ => rfl⟩
      simp
      omega
    · exact sz _ (by simp; omega)
  cases hn : (nums m h).getLast? with
  | none =>
    have hn' : nums m h = [] := List.getLast?_eq_none_iff.mp hn
    have key : W (B_Table__newest H.length [.ref t, nD h] H) fun r => ∃ s, r = .exc 2 s H := by
      rw [hn'] at cm
      unfold B_Table__newest body S_Table__newest
      have := cm _ rfl
      simp [T.it, T.ie, this]
      exact ⟨_, rfl⟩
    obtain ⟨s, e1⟩ := key
    rw [call_exc e1, List.take_length]
  | some n =>
    obtain ⟨ys, hy⟩ : ∃ ys, nums m h = ys ++ [n] := List.getLast?_eq_some_iff.mp hn
    refine call_v rfl ?_
    unfold B_Table__newest body S_Table__newest
    have cm' := cm _ rfl
    rw [hy] at cm'
    have ix : ∀ H : Own, fIx (.lst ((ys ++ [n]).map nD)) (.int (-1)) H = .ok (.v (nD n)) H := fun H => fIx_last (xs := ys.map nD) (by simp)
    simp only [List.map_append, List.map_cons, List.map_nil] at ix cm'
    simp [T.it, T.ie, cm', ix]
    exact ⟨_, rfl, by simp⟩
end
end K78
set_option Elab.async false
set_option linter.all false
set_option maxRecDepth 100000
set_option maxHeartbeats 2000000
/-! hands: what rests on an event. -/
namespace K78
open PySem PySem.Spec L2 Z TT
section
variable {H : Own} {t r e P : Nat} {L : List (List Nat)} {m : Md}
theorem resting_eq (T : TS H t r e P L m) {n : Nat} (hl : m.evs.length ≤ 1000) (he : ∀ v ∈ m.evs, v.2.2 < L.length) : callB B_Table__resting [.ref t, nD n] H = .ok (.n (.lst ((rst (meet L) n m.evs).map nD))) H := by
  refine call_r (by rw [nrfO, nrf_nDs]) rfl ?_
  have lt : t < H.length := lt_of_get T.it
  have le : e < H.length := lt_of_get T.ie
  unfold B_Table__resting body S_Table__resting
  show W (sSeq _ _ ⟨H.length, [some (.ref t), some (nD n), none, none, none, none, none, none]⟩ H) _
  have gt : ∀ l : Own, (H ++ l)[t]? = some (.ins 1 [aD P L, .ref r, .ref e, nD m.cnt]) := fun l => by rw [hp_getl lt]; exact T.it
  have ge : ∀ l : Own, (H ++ l)[e]? = some (.lst (m.evs.map evD)) := fun l => by rw [hp_getl le]; exact T.ie
  refine W_step (s' := [some (.ref t), some (nD n), some (.ref H.length), none, none, none, none, none]) (h' := H ++ [.lst []]) (by simp [sz 0]) ?_
  refine W_step (s' := [some (.ref t), some (nD n), some (.ref H.length), some (.ref (H.length + 1)), none, none, none, none]) (h' := H ++ [.lst [], .lst []]) (by simp [sz 0]) ?_
  refine W_stepW (P := fun r => ∃ s h1, r = .next s h1 ∧ s = [some (.ref t), some (nD n), some (.ref H.length), some (.ref (H.length + 1)), none, none, none, none] ∧ h1 = H ++ [.lst ((rst (meet L) n m.evs).map nD), .lst ((rsts (meet L) n m.evs m.evs.length).2.map nD)]) ?_ ?_
  · simp [gt, ge]
    refine W_list evD m.evs (fun k s h1 => s = [some (.ref t), some (nD n), some (.ref H.length), some (.ref (H.length + 1)), none, none, none, none] ∧ h1 = H ++ [.lst ((rsts (meet L) n m.evs k).1.map nD), .lst ((rsts (meet L) n m.evs k).2.map nD)]) ⟨rfl, rfl⟩ (fun k s h1 _ ⟨_, z⟩ => by rw [z]; intro n' o' z; cases z; exact ge _) ?_ ?_
    · rintro k s h1 hk ⟨rfl, rfl⟩
      have lens := rsts_len (q := meet L) (n := n) (es := m.evs) k (by omega)
      have mems := rsts_mem (q := meet L) (n := n) (es := m.evs) he k (by omega)
      rw [rsts_succ hk]
      have hx := he _ (List.getElem_mem hk)
      generalize m.evs[k] = v at *
      generalize rsts (meet L) n m.evs k = f at *
      obtain ⟨F, S⟩ := f
      obtain ⟨i, hd, x⟩ := v
      dsimp only at lens mems hx
      refine ⟨_, _, rfl, ?_⟩
      have cm : compGo (some (H.length + 1, .lst (S.map nD))) (tN 7) bYes (ed (e1 fNotB (ed (eCall 3 B_independent (aCons (ed (e1 (fFld [1] 0) (eVar 0))) (aCons (eVar 7) (aCons (eVar 6) aNil))))))) H.length [some (.ref t), some (nD n), some (.ref H.length), some (.ref (H.length + 1)), some (nD i), some (nD hd), some (nD x), none] (S.map nD) (H ++ [.lst (F.map nD), .lst (S.map nD)]) [] = .ok (.n (.lst ((S.map fun a => meet L a x).map .bl))) (H ++ [.lst (F.map nD), .lst (S.map nD)]) := by
        rw [comp_pure nD (fun _ => true) (fun a => .bl (meet L a x)) (by intro n o z; cases z; simp) S []]
        · have hf : S.filter (fun _ => true) = S := List.filter_eq_self.mpr fun _ _ => rfl
          rw [hf, List.map_map]
          rfl
        · intro a ha
          have ci := independent_eq (P := P) (mems a ha) hx (H ++ [.lst (F.map nD), .lst (S.map nD)])
          refine ⟨_, rfl, rfl, fun _ => ?_⟩
          simp [gt, ci]
        · exact sz _ (by simp; omega)
      have an := fAny_bls (S.map fun a => meet L a x) (H ++ [.lst (F.map nD), .lst (S.map nD)])
      have aa : (List.map (fun a => meet L a x) S).any id = S.any fun a => meet L a x := by rw [List.any_map]; rfl
      rw [aa] at an
      generalize (S.map fun a => meet L a x) = B at cm an
      unfold stp
      have sF : F.length < sizeLine := szl (by omega)
      have sS : S.length < sizeLine := szl (by omega)
      by_cases q1 : i = n
      · subst q1
        simp [sF, sS]
      · have q1' : ¬ ((i : Int) = (n : Int)) := by omega
        cases q2 : S.any fun a => meet L a x <;> rw [q2] at an
        · simp [q1, q1', cm, an, q2]
        · simp [q1, q1', cm, an, q2, sF, sS]
    · rintro s h1 ⟨rfl, rfl⟩
      first
        | exact ⟨_, _, rfl, rfl, rfl⟩
        | rfl
  · rintro _ ⟨s, h1, rfl, rfl, rfl⟩
    refine ⟨_, _, rfl, ?_⟩
    simp
    refine W_ok ⟨_, _, rfl, Nat.le_refl _, ?_, ?_⟩ <;> simp
theorem law_resting_eq {es : List Ev} {n : Nat} (hl : es.length ≤ 1000) (he : ∀ v ∈ es, v.2.2 < L.length) (hp : ∀ l ∈ L, l.length ≤ 100) (H : Own) : callB B__law_resting [lD L, .lst (es.map evD), nD n] H = .ok (.n (.lst ((rst (meet L) n es).map nD))) H := by
  refine call_r (by rw [nrfO, nrf_nDs]) rfl ?_
  unfold B__law_resting body S__law_resting
  show W (sSeq _ _ ⟨H.length, [some (lD L), some (.lst (es.map evD)), some (nD n), none, none, none, none, none, none]⟩ H) _
  refine W_step (s' := [some (lD L), some (.lst (es.map evD)), some (nD n), some (.ref H.length), some (.ref (H.length + 1)), none, none, none, none]) (h' := H ++ [.lst [], .lst []]) (by simp [sz 0]) ?_
  refine W_stepW (P := fun r => ∃ s h1, r = .next s h1 ∧ s = [some (lD L), some (.lst (es.map evD)), some (nD n), some (.ref H.length), some (.ref (H.length + 1)), none, none, none, none] ∧ h1 = H ++ [.lst ((rst (meet L) n es).map nD), .lst ((rsts (meet L) n es es.length).2.map nD)]) ?_ ?_
  · simp
    refine W_list evD es (fun k s h1 => s = [some (lD L), some (.lst (es.map evD)), some (nD n), some (.ref H.length), some (.ref (H.length + 1)), none, none, none, none] ∧ h1 = H ++ [.lst ((rsts (meet L) n es k).1.map nD), .lst ((rsts (meet L) n es k).2.map nD)]) ⟨rfl, rfl⟩ (fun _ _ _ _ _ => by simp) ?_ ?_
    · rintro k s h1 hk ⟨rfl, rfl⟩
      have lens := rsts_len (q := meet L) (n := n) (es := es) k (by omega)
      have mems := rsts_mem (q := meet L) (n := n) (es := es) he k (by omega)
      rw [rsts_succ hk]
      have hx := he _ (List.getElem_mem hk)
      generalize es[k] = v at *
      generalize rsts (meet L) n es k = f at *
      obtain ⟨F, S⟩ := f
      obtain ⟨i, hd, x⟩ := v
      dsimp only at lens mems hx
      refine ⟨_, _, rfl, ?_⟩
      have cm : compGo (some (H.length + 1, .lst (S.map nD))) (tN 8) (eT (ed (eCall 3 B__law_meet (aCons (eVar 0) (aCons (eVar 8) (aCons (eVar 7) aNil)))))) (eC (.int 1)) H.length [some (lD L), some (.lst (es.map evD)), some (nD n), some (.ref H.length), some (.ref (H.length + 1)), some (nD i), some (nD hd), some (nD x), none] (S.map nD) (H ++ [.lst (F.map nD), .lst (S.map nD)]) [] = .ok (.n (.lst ((S.filter fun a => meet L a x).map fun _ => .int 1))) (H ++ [.lst (F.map nD), .lst (S.map nD)]) := by
        rw [comp_pure nD (fun a => meet L a x) (fun _ => .int 1) (by intro n o z; cases z; simp) S []]
        · simp
        · intro a ha
          have ci := law_meet_eq hp (mems a ha) hx (H ++ [.lst (F.map nD), .lst (S.map nD)])
          refine ⟨_, rfl, ?_, fun _ => rfl⟩
          simp [ci]
        · exact sz _ (by simp; omega)
      have an := len_filter_pos (fun a => meet L a x) S
      unfold stp
      have sF : F.length < sizeLine := szl (by omega)
      have sS : S.length < sizeLine := szl (by omega)
      by_cases q1 : i = n
      · subst q1
        simp [sF, sS]
      · have q1' : ¬ ((i : Int) = (n : Int)) := by omega
        generalize hz : (S.filter fun a => meet L a x) = z at *
        have hzl : (List.map (fun _ => D.int 1) z).length = z.length := by simp
        cases q2 : S.any fun a => meet L a x <;> rw [q2] at an
        · have an' : ¬ ((0 : Int) < (z.length : Int)) := by simpa using an
          have an2 : ¬ 0 < z.length := by omega
          simp [q1, q1', cm, q2, an2]
        · have an' : ((0 : Int) < (z.length : Int)) := by simpa using an
          have an2 : 0 < z.length := by omega
          simp [q1, q1', cm, q2, an2, sF, sS]
    · rintro s h1 ⟨rfl, rfl⟩
      first
        | exact ⟨_, _, rfl, rfl, rfl⟩
        | rfl
  · rintro _ ⟨s, h1, rfl, rfl, rfl⟩
    refine ⟨_, _, rfl, ?_⟩
    simp
    refine W_ok ⟨_, _, rfl, Nat.le_refl _, ?_, ?_⟩ <;> simp
end
end K78
set_option Elab.async false
set_option linter.all false
set_option maxRecDepth 100000
set_option maxHeartbeats 2000000
/-! hands: an event more, an event taken back. -/
namespace K78
open PySem PySem.Spec L2 Z TT
/-- what a step of the table leaves alone -/
structure Fr3 (H H' : Own) (t r e e' : Nat) : Prop where
  le : H.length ≤ H'.length
  ee : e' = e ∨ H.length ≤ e'
  fr : ∀ i, i < H.length → i ≠ t → i ≠ r → i ≠ e → H'[i]? = H[i]?
theorem Fr3.refl {H : Own} {t r e : Nat} : Fr3 H H t r e e := ⟨Nat.le_refl _, .inl rfl, fun _ _ _ _ _ => rfl⟩
theorem Fr3.trans {H H1 H2 : Own} {t r e e1 e2 : Nat} (a : Fr3 H H1 t r e e1) (b : Fr3 H1 H2 t r e1 e2) : Fr3 H H2 t r e e2 := by
  refine ⟨Nat.le_trans a.le b.le, ?_, fun i h1 h2 h3 h4 => ?_⟩
  · rcases b.ee with z | z
    · rw [z]; exact a.ee
    · exact .inr (Nat.le_trans a.le z)
  · rw [b.fr i (Nat.lt_of_lt_of_le h1 a.le) h2 h3 ?_, a.fr i h1 h2 h3 h4]
    rcases a.ee with z | z
    · rw [z]; exact h4
    · omega
def bkR (m : Md) (n k : Nat) : List (List Nat) := (m.evs.take k).foldl (bk1 n) m.rows
theorem bkR_succ {m : Md} {n k : Nat} (hk : k < m.evs.length) : bkR m n (k + 1) = bk1 n (bkR m n k) m.evs[k] := by
  unfold bkR
  rw [List.take_succ_eq_append_getElem hk, List.foldl_append]
  rfl
theorem bk1_len (n : Nat) (rows : List (List Nat)) (e : Ev) : (bk1 n rows e).length = rows.length := by
  unfold bk1
  split <;> simp
theorem row_mem {rows : List (List Nat)} {h : Nat} (hh : h < rows.length) : row rows h ∈ rows := List.mem_of_getElem? (row_of hh)
theorem bk1_w {nl R n : Nat} {rows : List (List Nat)} {e : Ev} (hh : e.2.1 < rows.length) (hx : e.2.2 < nl) (h : ∀ w ∈ rows, w.length ≤ R ∧ ∀ x ∈ w, x < nl) : ∀ w ∈ bk1 n rows e, w.length ≤ R + 1 ∧ ∀ x ∈ w, x < nl := by
  unfold bk1
  split
  · intro w hw
    rcases List.mem_or_eq_of_mem_set hw with z | z
    · exact ⟨by have := (h w z).1; omega, (h w z).2⟩
    · subst z
      have := h _ (row_mem hh)
      refine ⟨by rw [List.length_append]; simp; exact this.1, fun x hx' => ?_⟩
      rcases List.mem_append.mp hx' with z | z
      · exact this.2 x z
      · rw [List.mem_singleton.mp z]; exact hx
  · exact fun w hw => ⟨by have := (h w hw).1; omega, (h w hw).2⟩
theorem bkR_ok {hands nl R N n : Nat} {m : Md} (M : MdOk hands nl R N m) : ∀ k, k ≤ m.evs.length → (bkR m n k).length = hands ∧ ∀ w ∈ bkR m n k, w.length ≤ R + k ∧ ∀ x ∈ w, x < nl
  | 0, _ => ⟨M.rl, M.rw⟩
  | k + 1, h => by
    obtain ⟨i1, i2⟩ := bkR_ok (n := n) M k (by omega)
    have := M.ev _ (List.getElem_mem (show k < m.evs.length by omega))
    rw [bkR_succ (by omega)]
    exact ⟨by rw [bk1_len, i1], bk1_w (by rw [i1]; exact this.1) this.2 i2⟩
theorem MdOk.bk {hands nl R N n : Nat} {m : Md} (M : MdOk hands nl R N m) : MdOk hands nl (R + N) N (bk m n) := by
  have e : (K78.bk m n).rows = bkR m n m.evs.length := by unfold K78.bk bkR; rw [List.take_length]
  obtain ⟨i1, i2⟩ := bkR_ok (n := n) M m.evs.length (Nat.le_refl _)
  refine ⟨by rw [e, i1], fun w hw => ?_, fun v hv => M.ev v (List.mem_filter.mp hv).1, Nat.le_trans (List.length_filter_le _ _) M.el, M.cn⟩
  rw [e] at hw
  have := i2 w hw
  have := M.el
  exact ⟨by omega, (i2 w hw).2⟩
section
variable {H : Own} {t r e P : Nat} {L : List (List Nat)} {m : Md}
theorem add_eq (T : TS H t r e P L m) {h x : Nat} (hl : m.evs.length ≤ 1000) : ∃ H', callB B_Table__add [.ref t, nD h, nD x] H = .ok (.v (nD m.cnt)) H' ∧ TS H' t r e P L (addE m h x) ∧ Fr3 H H' t r e e ∧ H'.length = H.length := by
  have lt : t < H.length := lt_of_get T.it
  have le : e < H.length := lt_of_get T.ie
  refine ⟨(H.set e (.lst ((addE m h x).evs.map evD))).set t (.ins 1 [aD P L, .ref r, .ref e, nD (m.cnt + 1)]), ?_, ⟨?_, ?_, ?_, T.ne⟩, ⟨by simp, .inl rfl, fun i h1 h2 h3 h4 => ?_⟩, by simp⟩
  · have key := call_x (G := B_Table__add) (as := [.ref t, nD h, nD x]) (h := H) (Pr := fun d h1 => d = nD m.cnt ∧ h1 = (H.set e (.lst ((addE m h x).evs.map evD))).set t (.ins 1 [aD P L, .ref r, .ref e, nD (m.cnt + 1)])) (by
      unfold B_Table__add body S_Table__add
      show W (sSeq _ _ ⟨H.length, [some (.ref t), some (nD h), some (nD x)]⟩ H) _
      have s1 : m.evs.length < sizeLine := szl (by omega)
      have s3 : 3 ≤ sizeLine := by decide
      have ev : m.evs.map evD ++ [.tup [.int (m.cnt : Int), .int (h : Int), .int (x : Int)]] = (addE m h x).evs.map evD := by unfold addE; simp
      have nr : nrfO (.lst ((addE m h x).evs.map evD)) = true := by rw [nrfO, nrf_evs]
      have p1 : putO H H.length e (.lst ((addE m h x).evs.map evD)) = some (H.set e (.lst ((addE m h x).evs.map evD))) := putO_nrf nr
      have g1 : (H.set e (.lst ((addE m h x).evs.map evD)))[t]? = some (.ins 1 [aD P L, .ref r, .ref e, nD m.cnt]) := by rw [get_set_ne T.te.symm]; exact T.it
      generalize hH1 : H.set e (.lst ((addE m h x).evs.map evD)) = H1 at *
      have p2 : putO H1 H.length t (.ins 1 [aD P L, .ref r, .ref e, nD (m.cnt + 1)]) = some (H1.set t (.ins 1 [aD P L, .ref r, .ref e, nD (m.cnt + 1)])) := putO_sub g1 (by rw [subR_iff]; intro y hy; simpa [refsO, refss, refs] using hy)
      refine W_step (s' := [some (.ref t), some (nD h), some (nD x)]) (h' := H1) ?_ ?_
      · simp [T.it, T.ie, s1, s3, ev, p1]
      refine W_step (s' := [some (.ref t), some (nD h), some (nD x)]) (h' := H1.set t (.ins 1 [aD P L, .ref r, .ref e, nD (m.cnt + 1)])) ?_ ?_
      · have p2' : putO H1 H.length t (.ins 1 [aD P L, .ref r, .ref e, .int ((m.cnt : Int) + 1)]) = some (H1.set t (.ins 1 [aD P L, .ref r, .ref e, nD (m.cnt + 1)])) := p2
        generalize H1.set t (.ins 1 [aD P L, .ref r, .ref e, nD (m.cnt + 1)]) = H2 at *
        simp [g1, attD, p2']
      have lt1 : t < H1.length := by rw [← hH1]; simpa using lt
      have g2 := get_set_self (H := H1) (n := t) (o := .ins 1 [aD P L, .ref r, .ref e, nD (m.cnt + 1)]) lt1
      have l2 : (H1.set t (.ins 1 [aD P L, .ref r, .ref e, nD (m.cnt + 1)])).length = H.length := by rw [← hH1]; simp
      generalize H1.set t (.ins 1 [aD P L, .ref r, .ref e, nD (m.cnt + 1)]) = H2 at *
      simp [g2]
      exact W_ok ⟨_, _, rfl, rfl, rfl, rfl⟩)
    obtain ⟨d, h9, ⟨rfl, rfl⟩, c9⟩ := key
    rw [c9, List.take_of_length_le (by simp)]
  · exact get_set_self (by simpa using lt)
  · rw [get_set_ne T.tr, get_set_ne (Ne.symm T.ne)]; exact T.ir
  · rw [get_set_ne T.te, get_set_self le]
  · rw [get_set_ne (Ne.symm h2), get_set_ne (Ne.symm h4)]
theorem take_back_eq {hands nl R N : Nat} (T : TS H t r e P L m) (M : MdOk hands nl R N m) (hN : N ≤ 1000) (hR : R ≤ 900000) {n : Nat} :
    ∃ H' e', callE 0 B_Table__take_back [.ref t, nD n] H = .ok (.v .non) H' ∧ TS H' t r e' P L (bk m n) ∧ Fr3 H H' t r e e' := by
  have lt : t < H.length := lt_of_get T.it
  have le : e < H.length := lt_of_get T.ie
  have lr : r < H.length := lt_of_get T.ir
  have el := M.el
  obtain ⟨H', e1, T', F'⟩ := callE_next (G := B_Table__take_back) (as := [.ref t, nD n]) (h := H) (P := fun H' => TS H' t r H.length P L (bk m n) ∧ Fr3 H H' t r e H.length) (by
    unfold B_Table__take_back body S_Table__take_back
    show W (sSeq _ _ ⟨0, [some (.ref t), some (nD n), none, none, none, none]⟩ H) _
    refine W_stepW (P := fun r' => ∃ s h1, r' = .next s h1 ∧ s = [some (.ref t), some (nD n), none, none, none, none] ∧ h1 = H.set r (.lst ((bk m n).rows.map wD))) ?_ ?_
    · simp [T.it, T.ie]
      have hb : (bk m n).rows = bkR m n m.evs.length := by unfold bk bkR; rw [List.take_length]
      rw [hb]
      refine W_list evD m.evs (fun k s h1 => s = [some (.ref t), some (nD n), none, none, none, none] ∧ h1 = H.set r (.lst ((bkR m n k).map wD))) ⟨rfl, ?_⟩ (fun k s h1 _ ⟨_, z⟩ => by rw [z]; intro n' o' z; cases z; rw [get_set_ne T.ne]; exact T.ie) ?_ ?_
      · rw [set_self]
        exact T.ir
      · rintro k s h1 hk ⟨rfl, rfl⟩
        obtain ⟨i1, i2⟩ := bkR_ok (n := n) M k (by omega)
        have hv := M.ev _ (List.getElem_mem hk)
        rw [bkR_succ hk]
        generalize m.evs[k] = v at *
        obtain ⟨i, hd, x⟩ := v
        dsimp only at hv
        generalize bkR m n k = rows at *
        refine ⟨_, _, rfl, ?_⟩
        unfold bk1
        by_cases q : i = n
        · subst q
          have hh : hd < rows.length := by rw [i1]; exact hv.1
          have gt : (H.set r (.lst (rows.map wD)))[t]? = some (.ins 1 [aD P L, .ref r, .ref e, nD m.cnt]) := by rw [get_set_ne (Ne.symm T.tr)]; exact T.it
          have gr : (H.set r (.lst (rows.map wD)))[r]? = some (.lst (rows.map wD)) := get_set_self lr
          have ix : fIx (.ref r) (nD hd) (H.set r (.lst (rows.map wD))) = .ok (.v (wD (row rows hd))) (H.set r (.lst (rows.map wD))) := fIx_q (asQ_ref gr) rfl (by rw [List.getElem?_map, row_of hh]; rfl)
          have rl := (i2 _ (row_mem hh)).1
          have s1 : (row rows hd).length + 1 ≤ sizeLine := sz _ (by omega)
          have s2 : (1 : Nat) ≤ sizeLine := by decide
          have pu : fPut 0 (.ref r) (nD hd) (.tup ((row rows hd).map nD ++ [nD x])) (H.set r (.lst (rows.map wD))) = some ((H.set r (.lst (rows.map wD))).set r (.lst ((rows.map wD).set hd (.tup ((row rows hd).map nD ++ [nD x]))))) := fPut_lst (Nat.zero_le _) (by simpa using hh) gr
          have sets : (H.set r (.lst (rows.map wD))).set r (.lst ((rows.map wD).set hd (.tup ((row rows hd).map nD ++ [nD x])))) = H.set r (.lst ((rows.set hd (row rows hd ++ [x])).map wD)) := by
            rw [List.set_set, List.map_set]
            congr 3
            unfold wD
            rw [List.map_append]
            rfl
          rw [sets] at pu
          simp [gt, ix, s1, s2, pu]
        · have q' : ¬ ((i : Int) = (n : Int)) := by omega
          simp [q, q']
      · rintro s h1 ⟨rfl, rfl⟩
        first
          | exact ⟨_, _, rfl, rfl, rfl⟩
          | rfl
    · rintro _ ⟨s, h1, rfl, rfl, rfl⟩
      refine ⟨_, _, rfl, ?_⟩
      have gt : (H.set r (.lst ((bk m n).rows.map wD)))[t]? = some (.ins 1 [aD P L, .ref r, .ref e, nD m.cnt]) := by rw [get_set_ne (Ne.symm T.tr)]; exact T.it
      have ge : (H.set r (.lst ((bk m n).rows.map wD)))[e]? = some (.lst (m.evs.map evD)) := by rw [get_set_ne T.ne]; exact T.ie
      have gr : (H.set r (.lst ((bk m n).rows.map wD)))[r]? = some (.lst ((bk m n).rows.map wD)) := get_set_self lr
      have fr : ∀ i, i ≠ r → (H.set r (.lst ((bk m n).rows.map wD)))[i]? = H[i]? := fun i hi => get_set_ne (Ne.symm hi)
      have ll : (H.set r (.lst ((bk m n).rows.map wD))).length = H.length := by simp
      generalize H.set r (.lst ((bk m n).rows.map wD)) = H1 at *
      have cm : compGo (some (e, .lst (m.evs.map evD))) (tN 5) (eTB (e2 fNe (ed (e2 fIx (eVar 5) (eC (.int 0)))) (eVar 1))) (eVar 5) 0 [some (.ref t), some (nD n), none, none, none, none] (m.evs.map evD) H1 [] = .ok (.n (.lst ((bk m n).evs.map evD))) H1 := by
        rw [comp_pure evD (fun v : Ev => !decide (v.1 = n)) evD (by intro n o z; cases z; exact ge) m.evs []]
        · rfl
        · rintro ⟨i, hd, x⟩ hv
          have ix : fIx (evD (i, hd, x)) (.int 0) H1 = .ok (.v (nD i)) H1 := fIx_q (k := 0) rfl rfl rfl
          have ic : ((i : Int) = (n : Int)) ↔ i = n := by omega
          refine ⟨_, rfl, ?_, fun _ => rfl⟩
          simp [ix, ic]
        · exact sz _ (by simp; omega)
      have gt2 : (H1 ++ [Z.O.lst ((bk m n).evs.map evD)])[t]? = some (.ins 1 [aD P L, .ref r, .ref e, nD m.cnt]) := get_push gt
      have pu : putO (H1 ++ [Z.O.lst ((bk m n).evs.map evD)]) 0 t (.ins 1 [aD P L, .ref r, .ref H1.length, nD m.cnt]) = some ((H1 ++ [Z.O.lst ((bk m n).evs.map evD)]).set t (.ins 1 [aD P L, .ref r, .ref H1.length, nD m.cnt])) := putO_own (Nat.zero_le _)
      simp [gt, ge, cm, gt2, attD, pu]
      have tl : t < (H1 ++ [Z.O.lst ((bk m n).evs.map evD)]).length := by simp; omega
      refine W_ok ⟨_, _, rfl, ⟨?_, ?_, ?_, by omega⟩, ⟨by simp; omega, .inr (Nat.le_refl _), fun i h1 h2 h3 h4 => ?_⟩⟩
      · rw [get_set_self tl, ll]; rfl
      · rw [get_set_ne T.tr, get_push gr]
      · rw [get_set_ne (by omega), ← ll, hp_get0]; rfl
      · rw [get_set_ne (Ne.symm h2), hp_getl (by omega), fr i h3])
  exact ⟨H', H.length, e1, T', F'⟩
end
end K78
set_option Elab.async false
set_option linter.all false
set_option maxRecDepth 100000
set_option maxHeartbeats 2000000
/-! hands: what a table's methods do. -/
namespace K78
open PySem PySem.Spec L2 Z TT
theorem toPh_lD (w : List Nat) (h : Own) : toPh h (.lst (w.map nD)) = some (.list (w.map fun n : Nat => PyData.int (n : Int))) := by
  show ((w.map nD).mapM (toP 7)).map PyData.list = _
  rw [toP_nDs]
  rfl
theorem fNe_l (u v : List Nat) (h : Own) : fNe (.lst (u.map nD)) (.lst (v.map nD)) h = .ok (.v (.bl (!decide (u = v)))) h := by
  unfold fNe fEqN
  rw [toPh_lD, toPh_lD]
  simp [PyData.eqv, eqvAll_nats]
theorem cut_m1 {xs : List Z.D} (h : xs ≠ []) : cutD xs none (some (-1)) = xs.dropLast := by
  unfold cutD
  have e : HT.sIx xs.length xs.length (some (-1)) = xs.length - 1 := by
    show (if (-1 : Int) < 0 then (-1 + (xs.length : Int)).toNat else min (-1 : Int).toNat xs.length) = _
    rw [if_pos (show (-1 : Int) < 0 by decide)]
    omega
  rw [e, HT.sIx_none, List.dropLast_eq_take]
  simp
theorem fPut_lstN {H : Own} {b n : Nat} {xs : List Z.D} {k : Nat} {v : Z.D} (nr : nrfO (.lst (xs.set k v)) = true) (hk : k < xs.length) (e : H[n]? = some (.lst xs)) : fPut b (.ref n) (nD k) v H = some (H.set n (.lst (xs.set k v))) := by
  unfold fPut
  simp only [e, ixN_nat hk]
  exact putO_nrf nr
def pre {α : Type} (u v : List α) : Prop := ∃ t, v = u ++ t
theorem stp_pre {q : Nat → Nat → Bool} {n : Nat} : ∀ (es : List Ev) (f : List Nat × List Nat), ∃ t, (es.foldl (stp q n) f).1 = f.1 ++ t
  | [], f => ⟨[], by simp⟩
  | e :: es, f => by
    obtain ⟨t, ht⟩ := stp_pre (q := q) (n := n) es (stp q n f e)
    rw [List.foldl_cons, ht]
    unfold stp
    split
    · exact ⟨e.1 :: t, by simp⟩
    · exact ⟨t, rfl⟩
theorem rst_head {q : Nat → Nat → Bool} {n : Nat} {es : List Ev} (h : ∃ e ∈ es, e.1 = n) : ∃ t, rst q n es = n :: t := by
  have go : ∀ es : List Ev, (∃ e ∈ es, e.1 = n) → ∃ t, (es.foldl (stp q n) ([], [])).1 = n :: t := by
    intro es
    induction es with
    | nil => rintro ⟨_, h, _⟩; cases h
    | cons e es ih =>
      rintro ⟨v, hv, hn⟩
      rw [List.foldl_cons]
      by_cases z : e.1 = n
      · obtain ⟨t, ht⟩ := stp_pre (q := q) (n := n) es (stp q n ([], []) e)
        rw [ht]
        unfold stp
        simp [z]
      · have e1 : stp q n ([], []) e = ([], []) := by unfold stp; simp [z]
        rw [e1]
        refine ih ?_
        rcases List.mem_cons.mp hv with y | y
        · rw [← y] at z; exact absurd hn z
        · exact ⟨v, y, hn⟩
  unfold rst rsts
  rw [List.take_length]
  exact go es h
theorem nums_mem {m : Md} {h n : Nat} (hn : (nums m h).getLast? = some n) : ∃ e ∈ m.evs, e.1 = n := by
  have : n ∈ nums m h := List.mem_of_getLast? hn
  unfold nums at this
  obtain ⟨e, he, rfl⟩ := List.mem_map.mp this
  exact ⟨e, (List.mem_filter.mp he).1, rfl⟩
def doS (m : Md) (h x : Nat) : Md := addE ⟨m.rows.set h [], m.evs, m.cnt⟩ h x
def agS (m : Md) (h l : Nat) : Md := addE ⟨m.rows.set h (row m.rows h).dropLast, m.evs, m.cnt⟩ h l
def bks (m : Md) (ns : List Nat) : Md := ns.foldl bk m
theorem bks_take {m : Md} {ns : List Nat} {k : Nat} (hk : k < ns.length) : bks m (ns.take (k + 1)) = bk (bks m (ns.take k)) ns[k] := by
  unfold bks
  rw [List.take_succ_eq_append_getElem hk, List.foldl_append]
  rfl
theorem MdOk.bks {hands nl R N : Nat} {m : Md} (M : MdOk hands nl R N m) : ∀ ns : List Nat, MdOk hands nl (R + N * ns.length) N (bks m ns)
  | [] => by
    show MdOk hands nl (R + N * 0) N m
    simpa using M
  | n :: ns => by
    have := (M.bk (n := n)).bks ns
    rw [List.length_cons, Nat.mul_succ, show R + (N * ns.length + N) = R + N + N * ns.length by omega]
    exact this
section
variable {H : Own} {t r e P : Nat} {L : List (List Nat)} {m : Md}
/-- the rows of the table are stored -/
theorem TS.put (T : TS H t r e P L m) (rows : List (List Nat)) : TS (H.set r (.lst (rows.map wD))) t r e P L ⟨rows, m.evs, m.cnt⟩ ∧ Fr3 H (H.set r (.lst (rows.map wD))) t r e e := by
  refine ⟨⟨?_, get_set_self (lt_of_get T.ir), ?_, T.ne⟩, ⟨by simp, .inl rfl, fun i h1 h2 h3 h4 => get_set_ne (Ne.symm h3)⟩⟩
  · rw [get_set_ne (Ne.symm T.tr)]; exact T.it
  · rw [get_set_ne T.ne]; exact T.ie
theorem nrf_rows (rows : List (List Nat)) (h : Nat) (w : List Nat) : nrfO (.lst ((rows.map wD).set h (wD w))) = true := by
  rw [← List.map_set, nrfO, nrf_wDs]
theorem isI (T : TS H t r e P L m) : isIns 1 H (.ref t) = true := by simp [T.it]
theorem do_no (T : TS H t r e P L m) {hand : Int} {x : Nat} (h1 : ¬ (0 ≤ hand ∧ hand < m.rows.length)) : callB B_Table_do [.ref t, .int hand, nD x] H = .exc 3 H := by
  have key : W (B_Table_do H.length [.ref t, .int hand, nD x] H) fun r => ∃ s, r = .exc 3 s H := by
    unfold B_Table_do body S_Table_do
    have c := check_no T h1
    simp [T.it, c]
    exact W_ok ⟨_, rfl⟩
  obtain ⟨s, e1⟩ := key
  rw [call_exc e1, List.take_length]
theorem do_ok (T : TS H t r e P L m) {h x : Nat} (hh : h < m.rows.length) (hl : m.evs.length ≤ 1000) : ∃ H', callB B_Table_do [.ref t, nD h, nD x] H = .ok (.v (nD m.cnt)) H' ∧ TS H' t r e P L (doS m h x) ∧ Fr3 H H' t r e e ∧ H'.length = H.length := by
  obtain ⟨T1, F1⟩ := T.put (m.rows.set h [])
  obtain ⟨H', c2, T2, F2, l2⟩ := add_eq T1 (h := h) (x := x) hl
  rw [List.length_set] at l2
  refine ⟨H', ?_, T2, F1.trans F2, l2⟩
  have key := call_x (G := B_Table_do) (as := [.ref t, nD h, nD x]) (h := H) (Pr := fun d h1 => d = nD m.cnt ∧ h1 = H') (by
    unfold B_Table_do body S_Table_do
    show W (sSeq _ _ ⟨H.length, [some (.ref t), some (nD h), some (nD x)]⟩ H) _
    have c := check_ok T (hand := (h : Int)) (by omega) (by omega)
    refine W_step (s' := [some (.ref t), some (nD h), some (nD x)]) (h' := H) (by simp [T.it, c]) ?_
    have pu : fPut H.length (.ref r) (nD h) (.tup []) H = some (H.set r (.lst ((m.rows.map wD).set h (.tup [])))) := fPut_lstN (nrf_rows m.rows h []) (by simpa using hh) T.ir
    have e1 : (m.rows.map wD).set h (.tup []) = (m.rows.set h []).map wD := by rw [List.map_set]; rfl
    rw [e1] at pu
    refine W_step (s' := [some (.ref t), some (nD h), some (nD x)]) (h' := H.set r (.lst ((m.rows.set h []).map wD))) (by simp [T.it, pu, sz 0]) ?_
    have it := T1.it
    generalize H.set r (.lst ((m.rows.set h []).map wD)) = H1 at *
    simp [it, c2]
    exact W_ok ⟨_, _, rfl, rfl, rfl, rfl⟩)
  obtain ⟨d, h9, ⟨rfl, rfl⟩, c9⟩ := key
  rw [c9, List.take_of_length_le (by omega)]
theorem undo_no (T : TS H t r e P L m) {hand : Int} (h1 : ¬ (0 ≤ hand ∧ hand < m.rows.length)) : callE 0 B_Table_undo [.ref t, .int hand] H = .exc 3 H := by
  have key : W (B_Table_undo 0 [.ref t, .int hand] H) fun r => ∃ s, r = .exc 3 s H := by
    unfold B_Table_undo body S_Table_undo
    have c := check_no T h1
    simp [T.it, c]
    exact W_ok ⟨_, rfl⟩
  obtain ⟨s, e1⟩ := key
  exact callE_exc e1
theorem all_no (T : TS H t r e P L m) {hand : Int} (h1 : ¬ (0 ≤ hand ∧ hand < m.rows.length)) : callE 0 B_Table_undo_with_all [.ref t, .int hand] H = .exc 3 H := by
  have key : W (B_Table_undo_with_all 0 [.ref t, .int hand] H) fun r => ∃ s, r = .exc 3 s H := by
    unfold B_Table_undo_with_all body S_Table_undo_with_all
    have c := check_no T h1
    simp [T.it, c]
    exact W_ok ⟨_, rfl⟩
  obtain ⟨s, e1⟩ := key
  exact callE_exc e1
theorem again_no (T : TS H t r e P L m) {hand : Int} (h1 : ¬ (0 ≤ hand ∧ hand < m.rows.length)) : callB B_Table_do_again [.ref t, .int hand] H = .exc 3 H := by
  have key : W (B_Table_do_again H.length [.ref t, .int hand] H) fun r => ∃ s, r = .exc 3 s H := by
    unfold B_Table_do_again body S_Table_do_again
    have c := check_no T h1
    simp [T.it, c]
    exact W_ok ⟨_, rfl⟩
  obtain ⟨s, e1⟩ := key
  rw [call_exc e1, List.take_length]
theorem row_no (T : TS H t r e P L m) {hand : Int} (h1 : ¬ (0 ≤ hand ∧ hand < m.rows.length)) : callB B_Table_row [.ref t, .int hand] H = .exc 3 H := by
  have key : W (B_Table_row H.length [.ref t, .int hand] H) fun r => ∃ s, r = .exc 3 s H := by
    unfold B_Table_row body S_Table_row
    have c := check_no T h1
    simp [T.it, c]
    exact W_ok ⟨_, rfl⟩
  obtain ⟨s, e1⟩ := key
  rw [call_exc e1, List.take_length]
theorem row_ok (T : TS H t r e P L m) {h : Nat} (hh : h < m.rows.length) : callB B_Table_row [.ref t, nD h] H = .ok (.v (wD (row m.rows h))) H := by
  refine call_v (nrf_wD _) ?_
  unfold B_Table_row body S_Table_row
  show W (sSeq _ _ ⟨H.length, [some (.ref t), some (nD h)]⟩ H) _
  have c := check_ok T (hand := (h : Int)) (by omega) (by omega)
  have ix : fIx (.ref r) (nD h) H = .ok (.v (wD (row m.rows h))) H := fIx_q (asQ_ref T.ir) rfl (by rw [List.getElem?_map, row_of hh]; rfl)
  refine W_step (s' := [some (.ref t), some (nD h)]) (h' := H) (by simp [T.it, c]) ?_
  simp [T.it, ix]
  exact W_ok ⟨_, rfl, by simp⟩
theorem events_eq (T : TS H t r e P L m) : callB B_Table_events [.ref t] H = .ok (.n (.lst (m.evs.map evD))) H := by
  refine call_n (by rw [nrfO, nrf_evs]) ?_
  unfold B_Table_events body S_Table_events
  simp [T.it, T.ie]
  exact W_ok ⟨_, rfl, by simp⟩
def ltrs (m : Md) : List Nat := m.evs.map fun v => v.2.2
theorem word_eq (T : TS H t r e P L m) (FL : Fine L) (hl : m.evs.length ≤ 1000) (he : ∀ v ∈ m.evs, v.2.2 < L.length) : callB B_Table_word [.ref t] H = .ok (.v (wD (least (meet L) (ltrs m)))) H := by
  refine call_v (nrf_wD _) ?_
  unfold B_Table_word body S_Table_word
  have cm : compGo (some (e, .lst (m.evs.map evD))) (tTup (tCons (tN 1) (tCons (tN 1) (tCons (tN 2) tNil)))) bYes (eVar 2) H.length [some (.ref t), none, none] (m.evs.map evD) H [] = .ok (.n (.lst ((ltrs m).map nD))) H := by
    rw [comp_pure evD (fun _ => true) (fun v : Ev => nD v.2.2) (by intro n o z; cases z; exact T.ie) m.evs []]
    · have hf : m.evs.filter (fun _ => true) = m.evs := List.filter_eq_self.mpr fun _ _ => rfl
      rw [hf]
      unfold ltrs
      rw [List.map_map]
      rfl
    · exact fun v hv => ⟨_, rfl, rfl, fun _ => rfl⟩
    · exact sz _ (by simp; omega)
  have fw : Fit L (ltrs m) := ⟨by unfold ltrs; simpa using hl, fun x hx => by
    unfold ltrs at hx
    obtain ⟨v, hv, rfl⟩ := List.mem_map.mp hx
    exact he v hv⟩
  have c := least_form_eq (P := P) (d := .lst ((ltrs m).map nD)) FL fw H (fun _ => rfl)
  simp [T.it, T.ie, cm, c]
  exact W_ok ⟨_, rfl, by simp⟩
end
end K78
set_option Elab.async false
set_option linter.all false
set_option maxRecDepth 100000
set_option maxHeartbeats 2000000
/-! hands: undo, undo with all, do again. -/
namespace K78
open PySem PySem.Spec L2 Z TT
section
variable {H : Own} {t r e P : Nat} {L : List (List Nat)} {m : Md}
theorem undo_none (T : TS H t r e P L m) {h : Nat} (hh : h < m.rows.length) (hl : m.evs.length ≤ 1000) (hn : (nums m h).getLast? = none) : callE 0 B_Table_undo [.ref t, nD h] H = .exc 2 H := by
  have key : W (B_Table_undo 0 [.ref t, nD h] H) fun r => ∃ s, r = .exc 2 s H := by
    unfold B_Table_undo body S_Table_undo
    show W (sSeq _ _ ⟨0, [some (.ref t), some (nD h), none]⟩ H) _
    have c := check_ok T (hand := (h : Int)) (by omega) (by omega)
    have c2 := newest_eq T (h := h) hl
    rw [hn] at c2
    refine W_step (s' := [some (.ref t), some (nD h), none]) (h' := H) (by simp [T.it, c]) ?_
    simp [T.it, c2]
    exact W_ok ⟨_, rfl⟩
  obtain ⟨s, e1⟩ := key
  exact callE_exc e1
theorem all_none (T : TS H t r e P L m) {h : Nat} (hh : h < m.rows.length) (hl : m.evs.length ≤ 1000) (hn : (nums m h).getLast? = none) : callE 0 B_Table_undo_with_all [.ref t, nD h] H = .exc 2 H := by
  have key : W (B_Table_undo_with_all 0 [.ref t, nD h] H) fun r => ∃ s, r = .exc 2 s H := by
    unfold B_Table_undo_with_all body S_Table_undo_with_all
    show W (sSeq _ _ ⟨0, [some (.ref t), some (nD h), none, none]⟩ H) _
    have c := check_ok T (hand := (h : Int)) (by omega) (by omega)
    have c2 := newest_eq T (h := h) hl
    rw [hn] at c2
    refine W_step (s' := [some (.ref t), some (nD h), none, none]) (h' := H) (by simp [T.it, c]) ?_
    simp [T.it, c2]
    exact W_ok ⟨_, rfl⟩
  obtain ⟨s, e1⟩ := key
  exact callE_exc e1
theorem undo_rests (T : TS H t r e P L m) {h n : Nat} (hh : h < m.rows.length) (hl : m.evs.length ≤ 1000) (he : ∀ v ∈ m.evs, v.2.2 < L.length) (hn : (nums m h).getLast? = some n) (hr : rst (meet L) n m.evs ≠ [n]) : callE 0 B_Table_undo [.ref t, nD h] H = .exc 2 H := by
  have key : W (B_Table_undo 0 [.ref t, nD h] H) fun r => ∃ s, r = .exc 2 s H := by
    unfold B_Table_undo body S_Table_undo
    show W (sSeq _ _ ⟨0, [some (.ref t), some (nD h), none]⟩ H) _
    have c := check_ok T (hand := (h : Int)) (by omega) (by omega)
    have c2 := newest_eq T (h := h) hl
    rw [hn] at c2
    have c3 := resting_eq T (n := n) hl he
    have c4 := fNe_l (rst (meet L) n m.evs) [n] H
    rw [decide_eq_false hr] at c4
    have s1 : (1 : Nat) ≤ sizeLine := by decide
    refine W_step (s' := [some (.ref t), some (nD h), none]) (h' := H) (by simp [T.it, c]) ?_
    refine W_step (s' := [some (.ref t), some (nD h), some (nD n)]) (h' := H) (by simp [T.it, c2]) ?_
    generalize (rst (meet L) n m.evs).map nD = rs at c3 c4
    simp only [List.map_cons, List.map_nil] at c4
    simp [T.it, c3, c4, s1]
    exact W_ok ⟨_, rfl⟩
  obtain ⟨s, e1⟩ := key
  exact callE_exc e1
theorem undo_ok {hands nl R N : Nat} (T : TS H t r e P L m) (M : MdOk hands nl R N m) (hN : N ≤ 1000) (hR : R ≤ 900000) {h n : Nat} (hh : h < m.rows.length) (he : ∀ v ∈ m.evs, v.2.2 < L.length) (hn : (nums m h).getLast? = some n) (hr : rst (meet L) n m.evs = [n]) :
    ∃ H' e', callE 0 B_Table_undo [.ref t, nD h] H = .ok (.v (nD n)) H' ∧ TS H' t r e' P L (bk m n) ∧ Fr3 H H' t r e e' := by
  have hl : m.evs.length ≤ 1000 := Nat.le_trans M.el hN
  obtain ⟨H', e', c5, T', F'⟩ := take_back_eq T M hN hR (n := n)
  refine ⟨H', e', ?_, T', F'⟩
  have key := callE_ret (G := B_Table_undo) (as := [.ref t, nD h]) (h := H) (P := fun d h1 => d = .v (nD n) ∧ h1 = H') (by
    unfold B_Table_undo body S_Table_undo
    show W (sSeq _ _ ⟨0, [some (.ref t), some (nD h), none]⟩ H) _
    have c := check_ok T (hand := (h : Int)) (by omega) (by omega)
    have c2 := newest_eq T (h := h) hl
    rw [hn] at c2
    have c3 := resting_eq T (n := n) hl he
    rw [hr] at c3
    have c4 := fNe_l [n] [n] H
    have s1 : (1 : Nat) ≤ sizeLine := by decide
    refine W_step (s' := [some (.ref t), some (nD h), none]) (h' := H) (by simp [T.it, c]) ?_
    refine W_step (s' := [some (.ref t), some (nD h), some (nD n)]) (h' := H) (by simp [T.it, c2]) ?_
    simp only [List.map_cons, List.map_nil] at c3 c4
    refine W_step (s' := [some (.ref t), some (nD h), some (nD n)]) (h' := H) (by simp [T.it, c3, c4, s1]) ?_
    simp [T.it, c5]
    first
      | exact W_ok ⟨_, _, rfl, rfl, rfl⟩
      | exact W_ok rfl)
  obtain ⟨d, h9, c9, rfl, rfl⟩ := key
  exact c9
theorem fRev_l (w : List Nat) (h : Own) : fRevL (.lst (w.map nD)) h = .ok (.n (.lst (w.reverse.map nD))) h := by
  unfold fRevL
  simp
theorem all_ok {hands nl R N : Nat} (T : TS H t r e P L m) (M : MdOk hands nl R N m) (hN : N ≤ 100) (hR : R ≤ 800000) {h n : Nat} (hh : h < m.rows.length) (he : ∀ v ∈ m.evs, v.2.2 < L.length) (hn : (nums m h).getLast? = some n) :
    ∃ H' e', callE 0 B_Table_undo_with_all [.ref t, nD h] H = .ok (.v (.lst ((rst (meet L) n m.evs).map nD))) H' ∧ TS H' t r e' P L (bks m (rst (meet L) n m.evs).reverse) ∧ Fr3 H H' t r e e' := by
  have hl : m.evs.length ≤ 1000 := by have := M.el; omega
  have rl : (rst (meet L) n m.evs).length ≤ N := by
    have := (rsts_len (q := meet L) (n := n) (es := m.evs) m.evs.length (Nat.le_refl _)).1
    have := M.el
    unfold rst
    omega
  have key := callE_ret (G := B_Table_undo_with_all) (as := [.ref t, nD h]) (h := H) (P := fun d h1 => ∃ e', d = .v (.lst ((rst (meet L) n m.evs).map nD)) ∧ TS h1 t r e' P L (bks m (rst (meet L) n m.evs).reverse) ∧ Fr3 H h1 t r e e') (by
    unfold B_Table_undo_with_all body S_Table_undo_with_all
    show W (sSeq _ _ ⟨0, [some (.ref t), some (nD h), none, none]⟩ H) _
    have c := check_ok T (hand := (h : Int)) (by omega) (by omega)
    have c2 := newest_eq T (h := h) hl
    rw [hn] at c2
    have c3 := resting_eq T (n := n) hl he
    generalize rst (meet L) n m.evs = rs at *
    refine W_step (s' := [some (.ref t), some (nD h), none, none]) (h' := H) (by simp [T.it, c]) ?_
    refine W_step (s' := [some (.ref t), some (nD h), some (.lst (rs.map nD)), none]) (h' := H) (by simp [T.it, c2, c3]) ?_
    refine W_stepW (P := fun r' => ∃ h1 e', r' = .next [some (.ref t), some (nD h), some (.lst (rs.map nD)), none] h1 ∧ TS h1 t r e' P L (bks m rs.reverse) ∧ Fr3 H h1 t r e e') ?_ ?_
    · have fr := fRev_l rs H
      simp only [sFor_eq, sE_eq, iSeq_eq, ed_eq, e1_eq, eVar_eq, List.getElem?_cons_succ, List.getElem?_cons_zero, Res.bind_ok, fr, frzO_lst]
      refine W_list nD rs.reverse (fun k s h1 => s = [some (.ref t), some (nD h), some (.lst (rs.map nD)), none] ∧ ∃ e', TS h1 t r e' P L (bks m (rs.reverse.take k)) ∧ Fr3 H h1 t r e e') ⟨rfl, e, by simpa [bks] using T, Fr3.refl⟩ (fun _ _ _ _ _ => by simp) ?_ ?_
      · rintro k s h1 hk ⟨rfl, e', T', F'⟩
        refine ⟨_, _, rfl, ?_⟩
        have Mk := M.bks (rs.reverse.take k)
        have lk : (rs.reverse.take k).length ≤ N := by simp; omega
        have lk2 : N * (rs.reverse.take k).length ≤ 100 * 100 := Nat.mul_le_mul hN (by omega)
        obtain ⟨H2, e2, c5, T2, F2⟩ := take_back_eq T' Mk (by omega) (by omega) (n := rs.reverse[k])
        rw [bks_take hk]
        have it := T'.it
        generalize rs.reverse[k] = a at *
        generalize bks m (rs.reverse.take k) = mk at *
        simp [it, c5]
        exact ⟨e2, T2, F'.trans F2⟩
      · rintro s h1 ⟨rfl, e', T', F'⟩
        rw [List.take_length] at T'
        exact ⟨_, e', rfl, T', F'⟩
    · rintro _ ⟨h1, e', rfl, T', F'⟩
      refine ⟨_, _, rfl, ?_⟩
      simp
      first
        | exact W_ok ⟨_, _, rfl, e', rfl, T', F'⟩
        | exact W_ok ⟨_, _, rfl, rfl, e', T', F'⟩)
  obtain ⟨d, h9, c9, e', rfl, T', F'⟩ := key
  exact ⟨h9, e', c9, T', F'⟩
theorem again_none (T : TS H t r e P L m) {h : Nat} (hh : h < m.rows.length) (hn : row m.rows h = []) : callB B_Table_do_again [.ref t, nD h] H = .exc 2 H := by
  have key : W (B_Table_do_again H.length [.ref t, nD h] H) fun r => ∃ s, r = .exc 2 s H := by
    unfold B_Table_do_again body S_Table_do_again
    show W (sSeq _ _ ⟨H.length, [some (.ref t), some (nD h), none]⟩ H) _
    have c := check_ok T (hand := (h : Int)) (by omega) (by omega)
    have ix : fIx (.ref r) (nD h) H = .ok (.v (wD (row m.rows h))) H := fIx_q (asQ_ref T.ir) rfl (by rw [List.getElem?_map, row_of hh]; rfl)
    rw [hn] at ix
    refine W_step (s' := [some (.ref t), some (nD h), none]) (h' := H) (by simp [T.it, c]) ?_
    simp [T.it, ix]
    exact W_ok ⟨_, rfl⟩
  obtain ⟨s, e1⟩ := key
  rw [call_exc e1, List.take_length]
theorem again_ok (T : TS H t r e P L m) {h l : Nat} {ys : List Nat} (hh : h < m.rows.length) (hl : m.evs.length ≤ 1000) (hy : row m.rows h = ys ++ [l]) : ∃ H', callB B_Table_do_again [.ref t, nD h] H = .ok (.v (nD m.cnt)) H' ∧ TS H' t r e P L (agS m h l) ∧ Fr3 H H' t r e e ∧ H'.length = H.length := by
  obtain ⟨T1, F1⟩ := T.put (m.rows.set h (row m.rows h).dropLast)
  obtain ⟨H', c2, T2, F2, l2⟩ := add_eq T1 (h := h) (x := l) hl
  rw [List.length_set] at l2
  refine ⟨H', ?_, T2, F1.trans F2, l2⟩
  have key := call_x (G := B_Table_do_again) (as := [.ref t, nD h]) (h := H) (Pr := fun d h1 => d = nD m.cnt ∧ h1 = H') (by
    unfold B_Table_do_again body S_Table_do_again
    show W (sSeq _ _ ⟨H.length, [some (.ref t), some (nD h), none]⟩ H) _
    have c := check_ok T (hand := (h : Int)) (by omega) (by omega)
    have ix : fIx (.ref r) (nD h) H = .ok (.v (wD (row m.rows h))) H := fIx_q (asQ_ref T.ir) rfl (by rw [List.getElem?_map, row_of hh]; rfl)
    have pu : fPut H.length (.ref r) (nD h) (wD (row m.rows h).dropLast) H = some (H.set r (.lst ((m.rows.map wD).set h (wD (row m.rows h).dropLast)))) := fPut_lstN (nrf_rows m.rows h _) (by simpa using hh) T.ir
    have e1 : (m.rows.map wD).set h (wD (row m.rows h).dropLast) = (m.rows.set h (row m.rows h).dropLast).map wD := by rw [List.map_set]
    rw [e1] at pu
    have it := T1.it
    have e2 : (row m.rows h).dropLast = ys := by rw [hy, List.dropLast_concat]
    rw [e2] at pu it c2
    rw [hy] at ix
    have i2 : fIx (wD (ys ++ [l])) (.int (-1)) H = .ok (.v (nD l)) H := fIx_last (xs := ys.map nD) (by simp)
    have cu : cutD ((ys ++ [l]).map nD) none (some (-1)) = ys.map nD := by
      rw [cut_m1 (by simp), List.map_append]
      exact List.dropLast_concat
    have tr : tru H (wD (ys ++ [l])) = some true := by simp
    simp only [wD] at ix i2 pu tr
    generalize (ys ++ [l]).map nD = w at *
    refine W_step (s' := [some (.ref t), some (nD h), none]) (h' := H) (by simp [T.it, c]) ?_
    refine W_step (s' := [some (.ref t), some (nD h), none]) (h' := H) ?_ ?_
    · simp only [sIf_eq, sE_eq, bNot_eq, eT_eq, ed_eq, e2_eq, e1_eq, eVar_eq, List.getElem?_cons_succ, List.getElem?_cons_zero, Res.bind_ok, fFld_ref, T.it, List.mem_singleton, if_true, ix, tr]
      simp
    refine W_step (s' := [some (.ref t), some (nD h), some (nD l)]) (h' := H) (by simp [T.it, ix, i2]) ?_
    refine W_step (s' := [some (.ref t), some (nD h), some (nD l)]) (h' := H.set r (.lst ((m.rows.set h ys).map wD))) (by simp [T.it, ix, cu, pu]) ?_
    generalize H.set r (.lst ((m.rows.set h ys).map wD)) = H1 at *
    simp [it, c2]
    exact W_ok ⟨_, _, rfl, rfl, rfl, rfl⟩)
  obtain ⟨d, h9, ⟨rfl, rfl⟩, c9⟩ := key
  rw [c9, List.take_of_length_le (by omega)]
end
end K78
set_option Elab.async false
set_option linter.all false
set_option maxRecDepth 100000
set_option maxHeartbeats 2000000
/-! hands: the law's own table. -/
namespace K78
open PySem PySem.Spec L2 Z TT
def kv (es : List Ev) (q c : Nat) : List (Key × Z.D) := [(Sum.inr "events", .lst (es.map evD)), (Sum.inr "rows", .ref q), (Sum.inr "count", nD c)]
structure MS (H : Own) (mi q : Nat) (m : Md) : Prop where
  im : H[mi]? = some (.dK (kv m.evs q m.cnt))
  iq : H[q]? = some (.lst (m.rows.map wD))
theorem MS.ne {H : Own} {mi q : Nat} {m : Md} (T : MS H mi q m) : mi ≠ q := by
  rintro rfl
  have := T.im.symm.trans T.iq
  cases this
structure Fr2 (H H' : Own) (mi q : Nat) : Prop where
  le : H'.length = H.length
  fr : ∀ i, i ≠ mi → i ≠ q → H'[i]? = H[i]?
theorem Fr2.refl {H : Own} {mi q : Nat} : Fr2 H H mi q := ⟨rfl, fun _ _ _ => rfl⟩
theorem Fr2.trans {H H1 H2 : Own} {mi q : Nat} (a : Fr2 H H1 mi q) (b : Fr2 H1 H2 mi q) : Fr2 H H2 mi q := ⟨b.le.trans a.le, fun i h1 h2 => (b.fr i h1 h2).trans (a.fr i h1 h2)⟩
theorem fAdd_ll {xs ys : List Z.D} {h : Own} (hl : xs.length + ys.length ≤ 1000000) : fAdd (.lst xs) (.lst ys) h = .ok (.n (.lst (xs ++ ys))) h := by
  show (match fAddS (.lst xs) (.lst ys) h with | .stuck => fAddL (.lst xs) (.lst ys) h | z => z) = _
  have h1 : fAddS (.lst xs) (.lst ys) h = .stuck := rfl
  rw [h1]
  dsimp only
  unfold fAddL
  simp [sz _ hl]
theorem kv_ev {es : List Ev} {q c : Nat} : getD (kv es q c) (Sum.inr "events" : Key) = some (.lst (es.map evD)) := rfl
theorem kv_rows {es : List Ev} {q c : Nat} : getD (kv es q c) (Sum.inr "rows" : Key) = some (.ref q) := rfl
theorem kv_cnt {es : List Ev} {q c : Nat} : getD (kv es q c) (Sum.inr "count" : Key) = some (nD c) := rfl
theorem kv_pev {es es' : List Ev} {q c : Nat} : putD (kv es q c) (Sum.inr "events" : Key) (.lst (es'.map evD)) = kv es' q c := rfl
theorem kv_pcnt {es : List Ev} {q c c' : Nat} : putD (kv es q c) (Sum.inr "count" : Key) (nD c') = kv es q c' := rfl
theorem kv_refs {es : List Ev} {q c : Nat} : refsO (.dK (kv es q c)) = [q] := by
  have : refss (es.map evD) = [] := nil_refss _ (nrf_evs es)
  simp [kv, refsO, refsK, refs, this]
theorem kv_sub {es es' : List Ev} {q c c' : Nat} : subR (.dK (kv es q c)) (.dK (kv es' q c')) = true := by
  rw [subR_iff, kv_refs, kv_refs]
  exact fun r hr => hr
section
variable {H : Own} {mi q : Nat} {m : Md}
theorem MS.gev (T : MS H mi q m) : fIx (.ref mi) (.str "events") H = .ok (.v (.lst (m.evs.map evD))) H := fIx_key T.im kv_ev
theorem MS.grow (T : MS H mi q m) : fIx (.ref mi) (.str "rows") H = .ok (.v (.ref q)) H := fIx_key T.im kv_rows
theorem MS.gcnt (T : MS H mi q m) : fIx (.ref mi) (.str "count") H = .ok (.v (nD m.cnt)) H := fIx_key T.im kv_cnt
theorem MS.pev (T : MS H mi q m) (es : List Ev) (b : Nat) : fPut b (.ref mi) (.str "events") (.lst (es.map evD)) H = some (H.set mi (.dK (kv es q m.cnt))) := by
  rw [fPut_key T.im (by simp [kv]) (.inr (by rw [kv_pev]; exact kv_sub)), kv_pev]
theorem MS.pcnt (T : MS H mi q m) (c b : Nat) : fPut b (.ref mi) (.str "count") (nD c) H = some (H.set mi (.dK (kv m.evs q c))) := by
  rw [fPut_key T.im (by simp [kv]) (.inr (by rw [kv_pcnt]; exact kv_sub)), kv_pcnt]
theorem MS.sev (T : MS H mi q m) (es : List Ev) (c : Nat) : MS (H.set mi (.dK (kv es q c))) mi q ⟨m.rows, es, c⟩ ∧ Fr2 H (H.set mi (.dK (kv es q c))) mi q :=
  ⟨⟨get_set_self (lt_of_get T.im), by rw [get_set_ne T.ne]; exact T.iq⟩, ⟨by simp, fun i h1 h2 => get_set_ne (Ne.symm h1)⟩⟩
theorem MS.srow (T : MS H mi q m) (rows : List (List Nat)) : MS (H.set q (.lst (rows.map wD))) mi q ⟨rows, m.evs, m.cnt⟩ ∧ Fr2 H (H.set q (.lst (rows.map wD))) mi q :=
  ⟨⟨by rw [get_set_ne (Ne.symm T.ne)]; exact T.im, get_set_self (lt_of_get T.iq)⟩, ⟨by simp, fun i h1 h2 => get_set_ne (Ne.symm h2)⟩⟩
theorem law_add_eq (T : MS H mi q m) {h x : Nat} (hl : m.evs.length ≤ 1000) : ∃ H', callB B__law_add [.ref mi, nD h, nD x] H = .ok (.v (nD m.cnt)) H' ∧ MS H' mi q (addE m h x) ∧ Fr2 H H' mi q := by
  obtain ⟨T1, F1⟩ := T.sev m.evs (m.cnt + 1)
  obtain ⟨T2, F2⟩ := T1.sev (addE m h x).evs (m.cnt + 1)
  refine ⟨_, ?_, T2, F1.trans F2⟩
  have key := call_x (G := B__law_add) (as := [.ref mi, nD h, nD x]) (h := H) (Pr := fun d h1 => d = nD m.cnt ∧ h1 = (H.set mi (.dK (kv m.evs q (m.cnt + 1)))).set mi (.dK (kv (addE m h x).evs q (m.cnt + 1)))) (by
    unfold B__law_add body S__law_add
    show W (sSeq _ _ ⟨H.length, [some (.ref mi), some (nD h), some (nD x), none]⟩ H) _
    refine W_step (s' := [some (.ref mi), some (nD h), some (nD x), some (nD m.cnt)]) (h' := H) (by simp [T.gcnt]) ?_
    have p1 : fPut H.length (.ref mi) (.str "count") (.int ((m.cnt : Int) + 1)) H = some (H.set mi (.dK (kv m.evs q (m.cnt + 1)))) := T.pcnt (m.cnt + 1) H.length
    refine W_step (s' := [some (.ref mi), some (nD h), some (nD x), some (nD m.cnt)]) (h' := H.set mi (.dK (kv m.evs q (m.cnt + 1)))) (by simp [p1]) ?_
    have g1 := T1.gev
    have p2 := T1.pev (addE m h x).evs H.length
    generalize H.set mi (.dK (kv m.evs q (m.cnt + 1))) = H1 at *
    have ad : fAdd (.lst (m.evs.map evD)) (.lst [evD (m.cnt, h, x)]) H1 = .ok (.n (.lst ((addE m h x).evs.map evD))) H1 := by
      rw [fAdd_ll (by simp; omega)]
      unfold addE
      rw [List.map_append]
      rfl
    have s1 : (1 : Nat) ≤ sizeLine := by decide
    have s3 : (3 : Nat) ≤ sizeLine := by decide
    dsimp only at g1 p2
    generalize (addE m h x).evs.map evD = E' at *
    refine W_step (s' := [some (.ref mi), some (nD h), some (nD x), some (nD m.cnt)]) (h' := H1.set mi (.dK (kv (addE m h x).evs q (m.cnt + 1)))) ?_ ?_
    · simp only [evD] at ad
      simp [g1, s1, s3, ad, p2]
    simp
    exact W_ok ⟨_, _, rfl, rfl, rfl, rfl⟩)
  obtain ⟨d, h9, ⟨rfl, rfl⟩, c9⟩ := key
  rw [c9, List.take_of_length_le (by simp)]
theorem law_take_back_eq {hands nl R N : Nat} (T : MS H mi q m) (M : MdOk hands nl R N m) (hN : N ≤ 100) (hR : R ≤ 800000) {ns : List Nat} (hns : ns.length ≤ N) :
    ∃ H', callB B__law_take_back [.ref mi, .lst (ns.map nD)] H = .ok (.v .non) H' ∧ MS H' mi q (bks m ns.reverse) ∧ Fr2 H H' mi q := by
  have key := call_next (G := B__law_take_back) (as := [.ref mi, .lst (ns.map nD)]) (h := H) (P := fun h1 => MS h1 mi q (bks m ns.reverse) ∧ Fr2 H h1 mi q) (by
    unfold B__law_take_back body S__law_take_back
    show W (sFor _ _ _ _ ⟨H.length, [some (.ref mi), some (.lst (ns.map nD)), none, none, none, none, none, none]⟩ H) _
    have fr := fRev_l ns H
    simp only [sFor_eq, sE_eq, iSeq_eq, ed_eq, e1_eq, eVar_eq, List.getElem?_cons_succ, List.getElem?_cons_zero, Res.bind_ok, fr, frzO_lst]
    refine W_list nD ns.reverse (fun k s h1 => s = [some (.ref mi), some (.lst (ns.map nD)), none, none, none, none, none, none] ∧ MS h1 mi q (bks m (ns.reverse.take k)) ∧ Fr2 H h1 mi q) ⟨rfl, by simpa [bks] using T, Fr2.refl⟩ (fun _ _ _ _ _ => by simp) ?_ ?_
    · rintro k s h1 hk ⟨rfl, T', F'⟩
      refine ⟨_, _, rfl, ?_⟩
      have Mk := M.bks (ns.reverse.take k)
      have lk : (ns.reverse.take k).length ≤ N := by simp; omega
      have lk2 : N * (ns.reverse.take k).length ≤ 100 * 100 := Nat.mul_le_mul hN (by omega)
      rw [bks_take hk]
      generalize ns.reverse[k] = n at *
      generalize bks m (ns.reverse.take k) = mk at *
      have el := Mk.el
      refine W_stepW (P := fun r' => ∃ h2, r' = .next [some (.ref mi), some (.lst (ns.map nD)), some (nD n), none, none, none, none, none] h2 ∧ MS h2 mi q ⟨bkR mk n mk.evs.length, mk.evs, mk.cnt⟩ ∧ Fr2 H h2 mi q) ?_ ?_
      · have gev := T'.gev
        simp only [sFor_eq, sE_eq, iSeq_eq, ed_eq, e2_eq, eVar_eq, eC_eq, tN_eq, List.set_cons_succ, List.set_cons_zero, List.getElem?_cons_succ, List.getElem?_cons_zero, Res.bind_ok, gev]
        refine W_list evD mk.evs (fun j s h2 => s = [some (.ref mi), some (.lst (ns.map nD)), some (nD n), none, none, none, none, none] ∧ MS h2 mi q ⟨bkR mk n j, mk.evs, mk.cnt⟩ ∧ Fr2 H h2 mi q) ⟨rfl, T', F'⟩ (fun _ _ _ _ _ => by simp) ?_ ?_
        · rintro j s h2 hj ⟨rfl, T2, F2⟩
          obtain ⟨i1, i2⟩ := bkR_ok (n := n) Mk j (by omega)
          have hv := Mk.ev _ (List.getElem_mem hj)
          rw [bkR_succ hj]
          generalize mk.evs[j] = v at *
          obtain ⟨i, hd, x⟩ := v
          dsimp only at hv
          generalize bkR mk n j = rows at *
          refine ⟨_, _, rfl, ?_⟩
          unfold bk1
          by_cases z : i = n
          · subst z
            have hh : hd < rows.length := by rw [i1]; exact hv.1
            have gr := T2.grow
            have ix : fIx (.ref q) (nD hd) h2 = .ok (.v (wD (row rows hd))) h2 := fIx_q (asQ_ref T2.iq) rfl (by rw [List.getElem?_map, row_of hh]; rfl)
            have rl := (i2 _ (row_mem hh)).1
            have s1 : (row rows hd).length + 1 ≤ sizeLine := sz _ (by omega)
            have s2 : (1 : Nat) ≤ sizeLine := by decide
            have e2 : (row rows hd).map nD ++ [nD x] = (row rows hd ++ [x]).map nD := by rw [List.map_append]; rfl
            have pu : fPut H.length (.ref q) (nD hd) (wD (row rows hd ++ [x])) h2 = some (h2.set q (.lst ((rows.map wD).set hd (wD (row rows hd ++ [x]))))) := fPut_lstN (nrf_rows rows hd _) (by simpa using hh) T2.iq
            rw [← List.map_set] at pu
            simp only [wD] at pu
            rw [← e2] at pu
            obtain ⟨T3, F3⟩ := T2.srow (rows.set hd (row rows hd ++ [x]))
            generalize h2.set q (.lst ((rows.set hd (row rows hd ++ [x])).map wD)) = h3 at *
            simp only [wD] at ix
            simp [gr, ix, s1, s2, pu]
            exact ⟨T3, F2.trans F3⟩
          · have z' : ¬ ((i : Int) = (n : Int)) := by omega
            simp [z, z']
            exact ⟨T2, F2⟩
        · rintro s h2 ⟨rfl, T2, F2⟩
          exact ⟨_, rfl, T2, F2⟩
      · rintro _ ⟨h2, rfl, T2, F2⟩
        refine ⟨_, _, rfl, ?_⟩
        have gev := T2.gev
        have cm : compGo none (tN 7) (eTB (e2 fNe (ed (e2 fIx (eVar 7) (eC (.int 0)))) (eVar 2))) (eVar 7) H.length [some (.ref mi), some (.lst (ns.map nD)), some (nD n), none, none, none, none, none] (mk.evs.map evD) h2 [] = .ok (.n (.lst ((bk mk n).evs.map evD))) h2 := by
          rw [comp_pure evD (fun v : Ev => !decide (v.1 = n)) evD (by simp) mk.evs []]
          · rfl
          · rintro ⟨i, hd, x⟩ hv
            have ix : fIx (evD (i, hd, x)) (.int 0) h2 = .ok (.v (nD i)) h2 := fIx_q (k := 0) rfl rfl rfl
            have ic : ((i : Int) = (n : Int)) ↔ i = n := by omega
            refine ⟨_, rfl, ?_, fun _ => rfl⟩
            simp [ix, ic]
          · exact sz _ (by simp; omega)
        have pu := T2.pev (bk mk n).evs H.length
        obtain ⟨T3, F3⟩ := T2.sev (bk mk n).evs mk.cnt
        dsimp only at gev pu T3 F3
        have hb : (bk mk n).rows = bkR mk n mk.evs.length := by unfold bk bkR; rw [List.take_length]
        have em : (⟨bkR mk n mk.evs.length, (bk mk n).evs, mk.cnt⟩ : Md) = bk mk n := by rw [← hb]; rfl
        rw [em] at T3
        generalize h2.set mi (.dK (kv (bk mk n).evs q mk.cnt)) = h3 at *
        generalize (bk mk n).evs.map evD = E' at *
        simp [gev, cm, pu]
        exact ⟨T3, F2.trans F3⟩
    · rintro s h1 ⟨rfl, T', F'⟩
      rw [List.take_length] at T'
      exact ⟨_, _, rfl, T', F'⟩)
  obtain ⟨h1, ⟨T', F'⟩, c⟩ := key
  refine ⟨h1, ?_, T', F'⟩
  rw [c, List.take_of_length_le (by rw [F'.le]; exact Nat.le_refl _)]
end
end K78
set_option Elab.async false
set_option linter.all false
set_option maxRecDepth 100000
set_option maxHeartbeats 2000000
/-! hands: one turn, the law's and the table's. -/
namespace K78
open PySem PySem.Spec L2 Z TT
/-- a turn: what is told, what stands behind it -/
def op (q : Nat → Nat → Bool) (m : Md) (kind : Nat) (hand : Int) (x : Nat) : Z.D × Md :=
  if 0 ≤ hand ∧ hand < m.rows.length then
    (if kind = 0 then (nD m.cnt, doS m hand.toNat x)
    else if kind = 3 then (match (row m.rows hand.toNat).getLast? with
      | none => (.str "ready", m)
      | some l => (nD m.cnt, agS m hand.toNat l))
    else match (nums m hand.toNat).getLast? with
      | none => (.str "ready", m)
      | some n => if kind = 1 then (if rst q n m.evs = [n] then (nD n, bk m n) else (.str "ready", m)) else (.lst ((rst q n m.evs).map nD), bks m (rst q n m.evs).reverse))
  else (.str "hand", m)
theorem op_no {q : Nat → Nat → Bool} {m : Md} {kind : Nat} {hand : Int} {x : Nat} (h : ¬ (0 ≤ hand ∧ hand < m.rows.length)) : op q m kind hand x = (.str "hand", m) := if_neg h
theorem op_0 {q : Nat → Nat → Bool} {m : Md} {h x : Nat} (hh : h < m.rows.length) : op q m 0 (h : Int) x = (nD m.cnt, doS m h x) := by
  unfold op
  rw [if_pos ⟨by omega, by omega⟩]
  rfl
theorem op_3 {q : Nat → Nat → Bool} {m : Md} {h x : Nat} (hh : h < m.rows.length) : op q m 3 (h : Int) x = match (row m.rows h).getLast? with
      | none => (.str "ready", m)
      | some l => (nD m.cnt, agS m h l) := by
  unfold op
  rw [if_pos ⟨by omega, by omega⟩]
  rfl
theorem op_1 {q : Nat → Nat → Bool} {m : Md} {h x : Nat} (hh : h < m.rows.length) : op q m 1 (h : Int) x = match (nums m h).getLast? with
      | none => (.str "ready", m)
      | some n => if rst q n m.evs = [n] then (nD n, bk m n) else (.str "ready", m) := by
  unfold op
  rw [if_pos ⟨by omega, by omega⟩]
  rfl
theorem op_2 {q : Nat → Nat → Bool} {m : Md} {h x : Nat} (hh : h < m.rows.length) : op q m 2 (h : Int) x = match (nums m h).getLast? with
      | none => (.str "ready", m)
      | some n => (.lst ((rst q n m.evs).map nD), bks m (rst q n m.evs).reverse) := by
  unfold op
  rw [if_pos ⟨by omega, by omega⟩]
  rfl
theorem last_cases {α : Type} (xs : List α) : (xs = [] ∧ xs.getLast? = none) ∨ ∃ ys y, xs = ys ++ [y] ∧ xs.getLast? = some y := by
  cases e : xs.getLast? with
  | none => exact .inl ⟨List.getLast?_eq_none_iff.mp e, rfl⟩
  | some y =>
    obtain ⟨ys, hy⟩ := List.getLast?_eq_some_iff.mp e
    exact .inr ⟨ys, y, hy, rfl⟩
theorem rst_ne {q : Nat → Nat → Bool} {n : Nat} {es : List Ev} (h : ∃ e ∈ es, e.1 = n) : (1 < (rst q n es).length) ↔ rst q n es ≠ [n] := by
  obtain ⟨t, ht⟩ := rst_head (q := q) h
  rw [ht]
  cases t with
  | nil => simp
  | cons a t => simp
section
variable {H : Own} {t r e P : Nat} {L : List (List Nat)} {m : Md}
/-- the table answers as op says -/
theorem called_eq {hands R N kind x : Nat} {hand : Int} (tb : H[0]? = some (.tb 0)) (T : TS H t r e P L m) (M : MdOk hands L.length R N m) (hN : N ≤ 100) (hR : R ≤ 800000) (hk : kind < 4) (hx : x < L.length) :
    ∃ H' e', callE 0 B__law_called [.ref t, nD kind, .int hand, nD x] H = .ok (.v (op (meet L) m kind hand x).1) H' ∧ TS H' t r e' P L (op (meet L) m kind hand x).2 ∧ Fr3 H H' t r e e' := by
  have hl : m.evs.length ≤ 1000 := by have := M.el; omega
  have he : ∀ v ∈ m.evs, v.2.2 < L.length := fun v hv => (M.ev v hv).2
  have itb : isTb H 0 = true := isTb_of tb
  have kN : ∀ j : Nat, ((kind : Int) = (j : Int)) ↔ kind = j := fun j => by omega
  -- the four ways
  have way : ∀ {d : Z.D} {H' : Own}, (W (B__law_called 0 [.ref t, nD kind, .int hand, nD x] H) fun r' => r' = .ret (.v d) H') → callE 0 B__law_called [.ref t, nD kind, .int hand, nD x] H = .ok (.v d) H' := by
    intro d H' w
    obtain ⟨x', h1, c, e1, e2⟩ := callE_ret (P := fun x' h1 => x' = .v d ∧ h1 = H') (show W (B__law_called 0 [.ref t, nD kind, .int hand, nD x] H) (fun r' => ∃ x' h1, r' = .ret x' h1 ∧ x' = .v d ∧ h1 = H') from ⟨_, _, w, rfl, rfl⟩)
    rw [c, e1, e2]
  have unf : ∀ Q, W ((sSeq (sIf (eTB (e2 fEq (eVar 1) (eC (.int 0)))) (sRet (eLam 0 (tlTold 3 "hand" 2 "ready") (eMeth clN 1 3 B_Table_do (eVar 0) (aCons (eVar 2) (aCons (eVar 3) aNil))))) sPass)
      (sSeq (sIf (eTB (e2 fEq (eVar 1) (eC (.int 1)))) (sRet (eLam 0 (tlTold 3 "hand" 2 "ready") (eMeth clE 1 2 B_Table_undo (eVar 0) (aCons (eVar 2) aNil)))) sPass)
      (sSeq (sIf (eTB (e2 fEq (eVar 1) (eC (.int 2)))) (sRet (eLam 0 (tlTold 3 "hand" 2 "ready") (eMeth clE 1 2 B_Table_undo_with_all (eVar 0) (aCons (eVar 2) aNil)))) sPass)
      (sRet (eLam 0 (tlTold 3 "hand" 2 "ready") (eMeth clN 1 2 B_Table_do_again (eVar 0) (aCons (eVar 2) aNil))))))) ⟨0, [some (.ref t), some (nD kind), some (.int hand), some (nD x)]⟩ H) Q → W (B__law_called 0 [.ref t, nD kind, .int hand, nD x] H) Q := fun Q w => w
  by_cases hh : 0 ≤ hand ∧ hand < m.rows.length
  · obtain ⟨h, rfl⟩ : ∃ h : Nat, hand = (h : Int) := ⟨hand.toNat, by omega⟩
    have hh' : h < m.rows.length := by omega
    rcases (show kind = 0 ∨ kind = 1 ∨ kind = 2 ∨ kind = 3 by omega) with rfl | rfl | rfl | rfl
    · rw [op_0 hh']
      obtain ⟨H', c, T', F', _⟩ := do_ok T hh' (x := x) hl
      refine ⟨H', e, way (unf _ ?_), T', F'⟩
      simp [itb, T.it, c]
      exact W_ok rfl
    · rw [op_1 hh']
      rcases last_cases (nums m h) with ⟨z, hn⟩ | ⟨ys, n, z, hn⟩
      · have c := undo_none T hh' hl hn
        rw [hn]
        refine ⟨H, e, way (unf _ ?_), T, Fr3.refl⟩
        simp [itb, T.it, c]
        exact W_ok rfl
      · rw [hn]
        dsimp only
        by_cases hr : rst (meet L) n m.evs = [n]
        · rw [if_pos hr]
          obtain ⟨H', e', c, T', F'⟩ := undo_ok T M (by omega) (by omega) hh' he hn hr
          refine ⟨H', e', way (unf _ ?_), T', F'⟩
          simp [itb, T.it, c]
          exact W_ok rfl
        · rw [if_neg hr]
          have c := undo_rests T hh' hl he hn hr
          refine ⟨H, e, way (unf _ ?_), T, Fr3.refl⟩
          simp [itb, T.it, c]
          exact W_ok rfl
    · rw [op_2 hh']
      rcases last_cases (nums m h) with ⟨z, hn⟩ | ⟨ys, n, z, hn⟩
      · have c := all_none T hh' hl hn
        rw [hn]
        refine ⟨H, e, way (unf _ ?_), T, Fr3.refl⟩
        simp [itb, T.it, c]
        exact W_ok rfl
      · rw [hn]
        dsimp only
        obtain ⟨H', e', c, T', F'⟩ := all_ok T M hN hR hh' he hn
        refine ⟨H', e', way (unf _ ?_), T', F'⟩
        simp [itb, T.it, c]
        exact W_ok rfl
    · rw [op_3 hh']
      rcases last_cases (row m.rows h) with ⟨z, hn⟩ | ⟨ys, l, z, hn⟩
      · have c := again_none T hh' z
        rw [hn]
        refine ⟨H, e, way (unf _ ?_), T, Fr3.refl⟩
        simp [itb, T.it, c]
        exact W_ok rfl
      · rw [hn]
        dsimp only
        obtain ⟨H', c, T', F', _⟩ := again_ok T hh' hl z
        refine ⟨H', e, way (unf _ ?_), T', F'⟩
        simp [itb, T.it, c]
        exact W_ok rfl
  · rw [op_no hh]
    refine ⟨H, e, way (unf _ ?_), T, Fr3.refl⟩
    rcases (show kind = 0 ∨ kind = 1 ∨ kind = 2 ∨ kind = 3 by omega) with rfl | rfl | rfl | rfl
    · have c := do_no T (x := x) hh
      simp [itb, T.it, c]
      exact W_ok rfl
    · have c := undo_no T hh
      simp [itb, T.it, c]
      exact W_ok rfl
    · have c := all_no T hh
      simp [itb, T.it, c]
      exact W_ok rfl
    · have c := again_no T hh
      simp [itb, T.it, c]
      exact W_ok rfl
end
end K78
set_option Elab.async false
set_option linter.all false
set_option maxRecDepth 100000
set_option maxHeartbeats 2000000
/-! hands: one turn, by the law's own table. -/
namespace K78
open PySem PySem.Spec L2 Z TT
noncomputable def dueR : ST := (sSeq (sIf (eTB (e2 fEq (eVar 3) (eC (.int 0)))) (sSeq (sPut (eVar 6) (eVar 4) (eTup aNil))
  (sRet (eCall 3 B__law_add (aCons (eVar 2) (aCons (eVar 4) (aCons (eVar 5) aNil)))))) sPass)
  (sSeq (sIf (eTB (e2 fEq (eVar 3) (eC (.int 3)))) (sSeq (sIf (eTB (e2 fEq (ed (eA fLen (aCons (ed (e2 fIx (eVar 6) (eVar 4))) aNil))) (eC (.int 0)))) (sRet (ev (eC (.str "ready")))) sPass)
  (sSeq (sSet 11 (ed (e2 fIx (ed (e2 fIx (eVar 6) (eVar 4))) (ed (e2 fSub (ed (eA fLen (aCons (ed (e2 fIx (eVar 6) (eVar 4))) aNil))) (eC (.int 1)))))))
  (sSeq (sPut (eVar 6) (eVar 4) (ed (eSl (ed (e2 fIx (eVar 6) (eVar 4))) oNone (oSome (ed (e2 fSub (ed (eA fLen (aCons (ed (e2 fIx (eVar 6) (eVar 4))) aNil))) (eC (.int 1))))))))
  (sRet (eCall 3 B__law_add (aCons (eVar 2) (aCons (eVar 4) (aCons (eVar 11) aNil)))))))) sPass)
  (sSeq (sIf (eTB (e2 fEq (ed (eA fLen (aCons (eVar 7) aNil))) (eC (.int 0)))) (sRet (ev (eC (.str "ready")))) sPass)
  (sSeq (sSet 12 (ed (eCall 3 B__law_resting (aCons (eVar 1) (aCons (ed (e2 fIx (eVar 2) (eC (.str "events")))) (aCons (ed (e2 fIx (eVar 7) (ed (e2 fSub (ed (eA fLen (aCons (eVar 7) aNil))) (eC (.int 1)))))) aNil))))))
  (sSeq (sIf (eTB (e2 fEq (eVar 3) (eC (.int 1)))) (sSeq (sIf (eTB (e2 fGt (ed (eA fLen (aCons (eVar 12) aNil))) (eC (.int 1)))) (sRet (ev (eC (.str "ready")))) sPass)
  (sSeq (sX (ed (eCall 2 B__law_take_back (aCons (eVar 2) (aCons (eVar 12) aNil)))))
  (sRet (e2 fIx (eVar 12) (eC (.int 0)))))) sPass)
  (sSeq (sX (ed (eCall 2 B__law_take_back (aCons (eVar 2) (aCons (eVar 12) aNil)))))
  (sRet (ev (eVar 12)))))))))
section
variable {H : Own} {mi q : Nat} {m : Md}
theorem due_eq {L : List (List Nat)} {hands R N kind x d : Nat} {hand : Int} (T : MS H mi q m) (M : MdOk hands L.length R N m) (hp : ∀ l ∈ L, l.length ≤ 100) (hN : N ≤ 100) (hR : R ≤ 800000) (hk : kind < 4) (hx : x < L.length) :
    ∃ H', callB B__law_due [.ref d, lD L, .ref mi, nD kind, .int hand, nD x] H = .ok (.v (op (meet L) m kind hand x).1) H' ∧ MS H' mi q (op (meet L) m kind hand x).2 ∧ Fr2 H H' mi q := by
  have hl : m.evs.length ≤ 1000 := by have := M.el; omega
  have he : ∀ v ∈ m.evs, v.2.2 < L.length := fun v hv => (M.ev v hv).2
  have way : ∀ {D0 : Z.D} {H' : Own}, nrf D0 = true → Fr2 H H' mi q → (W (B__law_due H.length [.ref d, lD L, .ref mi, nD kind, .int hand, nD x] H) fun r' => r' = .ret (.v D0) H') → callB B__law_due [.ref d, lD L, .ref mi, nD kind, .int hand, nD x] H = .ok (.v D0) H' := by
    intro D0 H' nr F w
    obtain ⟨x', h1, ⟨e1, e2⟩, c⟩ := call_x (Pr := fun x' h1 => x' = D0 ∧ h1 = H') (show W (B__law_due H.length [.ref d, lD L, .ref mi, nD kind, .int hand, nD x] H) (fun r' => ∃ x' h1, r' = .ret (.v x') h1 ∧ nrf x' = true ∧ x' = D0 ∧ h1 = H') from ⟨_, _, w, nr, rfl, rfl⟩)
    rw [c, e1, e2, List.take_of_length_le (by rw [F.le]; exact Nat.le_refl _)]
  have len : fLen [.ref q] H = .ok (.v (.int (m.rows.length : Int))) H := by rw [fLen_q (asQ_ref T.iq), List.length_map]
  by_cases hh : 0 ≤ hand ∧ hand < m.rows.length
  · obtain ⟨h, rfl⟩ : ∃ h : Nat, hand = (h : Int) := ⟨hand.toNat, by omega⟩
    have hh' : h < m.rows.length := by omega
    have ix : fIx (.ref q) (nD h) H = .ok (.v (wD (row m.rows h))) H := fIx_q (asQ_ref T.iq) rfl (by rw [List.getElem?_map, row_of hh']; rfl)
    have cm : compGo none (tTup (tCons (tN 8) (tCons (tN 9) (tCons (tN 10) tNil)))) (eTB (e2 fEq (eVar 9) (eVar 4))) (eVar 8) H.length [some (.ref d), some (lD L), some (.ref mi), some (nD kind), some (nD h), some (nD x), some (.ref q), none, none, none, none, none, none] (m.evs.map evD) H [] = .ok (.n (.lst ((nums m h).map nD))) H := by
      rw [comp_pure evD (fun v : Ev => decide (v.2.1 = h)) (fun v => nD v.1) (by simp) m.evs []]
      · unfold nums
        rw [List.map_map]
        rfl
      · intro v hv
        refine ⟨_, rfl, ?_, fun _ => rfl⟩
        simp
        omega
      · exact sz _ (by simp; omega)
    -- the beginning
    have beg : ∀ Q, W (dueR ⟨H.length, [some (.ref d), some (lD L), some (.ref mi), some (nD kind), some (nD h), some (nD x), some (.ref q), some (.lst ((nums m h).map nD)), none, none, none, none, none]⟩ H) Q →
      W (B__law_due H.length [.ref d, lD L, .ref mi, nD kind, nD h, nD x] H) Q := by
      intro Q k'
      unfold B__law_due body S__law_due
      refine W_step (s' := [some (.ref d), some (lD L), some (.ref mi), some (nD kind), some (nD h), some (nD x), some (.ref q), none, none, none, none, none, none]) (h' := H) (by simp [T.grow]) ?_
      refine W_step (s' := [some (.ref d), some (lD L), some (.ref mi), some (nD kind), some (nD h), some (nD x), some (.ref q), none, none, none, none, none, none]) (h' := H) ?_ ?_
      · have h0 : (0 : Int) ≤ (h : Int) := by omega
        have h1 : (h : Int) < (m.rows.length : Int) := by omega
        simp only [sIf_eq, sE_eq, bNot_eq, eTB_eq, eCh_eq, eC_eq, eVar_eq, List.getElem?_cons_succ, List.getElem?_cons_zero, Res.bind_ok, fLe_ii, fLt_ii, h0, h1, decide_true, ed_eq, eA_eq, aCons_eq, aNil_eq, len]
        simp
      refine W_step (s' := [some (.ref d), some (lD L), some (.ref mi), some (nD kind), some (nD h), some (nD x), some (.ref q), some (.lst ((nums m h).map nD)), none, none, none, none, none]) (h' := H) ?_ ?_
      · simp [T.gev, cm]
      exact k'
    rcases (show kind = 0 ∨ kind = 1 ∨ kind = 2 ∨ kind = 3 by omega) with rfl | rfl | rfl | rfl
    · rw [op_0 hh']
      obtain ⟨T1, F1⟩ := T.srow (m.rows.set h [])
      obtain ⟨H', c, T', F'⟩ := law_add_eq T1 (h := h) (x := x) hl
      refine ⟨H', way rfl (F1.trans F') (beg _ ?_), T', F1.trans F'⟩
      have pu : fPut H.length (.ref q) (nD h) (.tup []) H = some (H.set q (.lst ((m.rows.map wD).set h (.tup [])))) := fPut_lstN (nrf_rows m.rows h []) (by simpa using hh') T.iq
      have e1 : (m.rows.map wD).set h (.tup []) = (m.rows.set h []).map wD := by rw [List.map_set]; rfl
      rw [e1] at pu
      generalize H.set q (.lst ((m.rows.set h []).map wD)) = H1 at *
      unfold dueR
      simp [pu, sz 0, c]
      exact W_ok rfl
    · rw [op_1 hh']
      rcases last_cases (nums m h) with ⟨z, hn⟩ | ⟨ys, n, z, hn⟩
      · rw [hn]
        refine ⟨H, way rfl Fr2.refl (beg _ ?_), T, Fr2.refl⟩
        rw [z]
        unfold dueR
        simp
        exact W_ok rfl
      · rw [hn]
        dsimp only
        have hm := nums_mem hn
        have rne := rst_ne (q := meet L) hm
        have c := law_resting_eq (L := L) (n := n) hl he hp H
        have rl : (rst (meet L) n m.evs).length ≤ N := by
          have := (rsts_len (q := meet L) (n := n) (es := m.evs) m.evs.length (Nat.le_refl _)).1
          have := M.el
          unfold rst
          omega
        have ixn : fIx (.lst ((ys ++ [n]).map nD)) (.int ((ys.length : Int) + 1 - 1)) H = .ok (.v (nD n)) H := fIx_q (k := ys.length) rfl (by omega) (by simp)
        have ixn' : fIx (.lst ((ys ++ [n]).map nD)) (.int (ys.length : Int)) H = .ok (.v (nD n)) H := fIx_q (k := ys.length) rfl rfl (by simp)
        by_cases hr : rst (meet L) n m.evs = [n]
        · rw [if_pos hr]
          obtain ⟨H', c2, T', F'⟩ := law_take_back_eq T M hN hR (ns := rst (meet L) n m.evs) rl
          have eb : bks m (rst (meet L) n m.evs).reverse = bk m n := by rw [hr]; rfl
          rw [eb] at T'
          refine ⟨H', way rfl F' (beg _ ?_), T', F'⟩
          rw [hr] at c c2
          rw [z]
          have ix0 : fIx (.lst [nD n]) (.int 0) H' = .ok (.v (nD n)) H' := fIx_q (k := 0) rfl rfl rfl
          simp only [List.map_append, List.map_cons, List.map_nil] at ixn ixn' c c2
          unfold dueR
          have z0 : ¬ ((ys.length : Int) + 1 = 0) := by omega
          simp [z0, T.gev, ixn, ixn', c, c2, ix0]
          exact W_ok rfl
        · rw [if_neg hr]
          have gt := rne.mpr hr
          refine ⟨H, way rfl Fr2.refl (beg _ ?_), T, Fr2.refl⟩
          rw [z]
          have gt' : (1 : Int) < ((rst (meet L) n m.evs).length : Int) := by omega
          simp only [List.map_append, List.map_cons, List.map_nil] at ixn ixn'
          unfold dueR
          have z0 : ¬ ((ys.length : Int) + 1 = 0) := by omega
          simp [z0, T.gev, ixn, ixn', c, gt, gt']
          exact W_ok rfl
    · rw [op_2 hh']
      rcases last_cases (nums m h) with ⟨z, hn⟩ | ⟨ys, n, z, hn⟩
      · rw [hn]
        refine ⟨H, way rfl Fr2.refl (beg _ ?_), T, Fr2.refl⟩
        rw [z]
        unfold dueR
        simp
        exact W_ok rfl
      · rw [hn]
        dsimp only
        have c := law_resting_eq (L := L) (n := n) hl he hp H
        have rl : (rst (meet L) n m.evs).length ≤ N := by
          have := (rsts_len (q := meet L) (n := n) (es := m.evs) m.evs.length (Nat.le_refl _)).1
          have := M.el
          unfold rst
          omega
        have ixn : fIx (.lst ((ys ++ [n]).map nD)) (.int ((ys.length : Int) + 1 - 1)) H = .ok (.v (nD n)) H := fIx_q (k := ys.length) rfl (by omega) (by simp)
        have ixn' : fIx (.lst ((ys ++ [n]).map nD)) (.int (ys.length : Int)) H = .ok (.v (nD n)) H := fIx_q (k := ys.length) rfl rfl (by simp)
        obtain ⟨H', c2, T', F'⟩ := law_take_back_eq T M hN hR (ns := rst (meet L) n m.evs) rl
        refine ⟨H', way (by rw [nrf, nrf_nDs]) F' (beg _ ?_), T', F'⟩
        rw [z]
        simp only [List.map_append, List.map_cons, List.map_nil] at ixn ixn'
        generalize (rst (meet L) n m.evs).map nD = rs at *
        unfold dueR
        have z0 : ¬ ((ys.length : Int) + 1 = 0) := by omega
        simp [z0, T.gev, ixn, ixn', c, c2]
        exact W_ok rfl
    · rw [op_3 hh']
      rcases last_cases (row m.rows h) with ⟨z, hn⟩ | ⟨ys, l, z, hn⟩
      · rw [hn]
        refine ⟨H, way rfl Fr2.refl (beg _ ?_), T, Fr2.refl⟩
        rw [z] at ix
        unfold dueR
        simp [ix]
        exact W_ok rfl
      · rw [hn]
        dsimp only
        obtain ⟨T1, F1⟩ := T.srow (m.rows.set h (row m.rows h).dropLast)
        obtain ⟨H', c, T', F'⟩ := law_add_eq T1 (h := h) (x := l) hl
        refine ⟨H', way rfl (F1.trans F') (beg _ ?_), T', F1.trans F'⟩
        have pu : fPut H.length (.ref q) (nD h) (wD (row m.rows h).dropLast) H = some (H.set q (.lst ((m.rows.map wD).set h (wD (row m.rows h).dropLast)))) := fPut_lstN (nrf_rows m.rows h _) (by simpa using hh') T.iq
        have e1 : (m.rows.map wD).set h (wD (row m.rows h).dropLast) = (m.rows.set h (row m.rows h).dropLast).map wD := by rw [List.map_set]
        rw [e1] at pu
        have e2 : (row m.rows h).dropLast = ys := by rw [z, List.dropLast_concat]
        rw [e2] at pu c
        rw [z] at ix
        have i2 : fIx (wD (ys ++ [l])) (.int (ys.length : Int)) H = .ok (.v (nD l)) H := fIx_q (k := ys.length) rfl rfl (by simp)
        have cu : cutD ((ys ++ [l]).map nD) none (some (ys.length : Int)) = ys.map nD := by
          rw [cut_hi (k := ys.length) rfl (by simp), List.map_append]
          exact List.take_left' (by simp)
        have ln : ((ys ++ [l]).map nD).length = ys.length + 1 := by simp
        simp only [wD] at ix i2 pu
        generalize (ys ++ [l]).map nD = w at *
        have z0 : ¬ ((ys.length : Int) + 1 = 0) := by omega
        generalize H.set q (.lst ((m.rows.set h ys).map wD)) = H1 at *
        unfold dueR
        simp [ix, ln, z0, i2, cu, pu, c]
        exact W_ok rfl
  · rw [op_no hh]
    refine ⟨H, way rfl Fr2.refl ?_, T, Fr2.refl⟩
    unfold B__law_due body S__law_due
    show W (sSeq _ _ ⟨H.length, [some (.ref d), some (lD L), some (.ref mi), some (nD kind), some (.int hand), some (nD x), none, none, none, none, none, none, none]⟩ H) _
    refine W_step (s' := [some (.ref d), some (lD L), some (.ref mi), some (nD kind), some (.int hand), some (nD x), some (.ref q), none, none, none, none, none, none]) (h' := H) (by simp [T.grow]) ?_
    by_cases z : 0 ≤ hand
    · have z2 : ¬ hand < m.rows.length := fun y => hh ⟨z, y⟩
      simp only [W_seq, sIf_eq, sE_eq, bNot_eq, eTB_eq, eCh_eq, eC_eq, eVar_eq, List.getElem?_cons_succ, List.getElem?_cons_zero, Res.bind_ok, fLe_ii, fLt_ii, z, z2, decide_true, decide_false, ed_eq, eA_eq, aCons_eq, aNil_eq, len]
      simp
      exact W_ok rfl
    · simp [z]
      exact W_ok rfl
end
end K78
set_option Elab.async false
set_option linter.all false
set_option maxRecDepth 100000
set_option maxHeartbeats 2000000
/-! hands: what a turn keeps; a table made. -/
namespace K78
open PySem PySem.Spec L2 Z TT
theorem MdOk.mono {hands nl R N R' N' : Nat} {m : Md} (M : MdOk hands nl R N m) (h1 : R ≤ R') (h2 : N ≤ N') : MdOk hands nl R' N' m :=
  ⟨M.rl, fun w hw => ⟨Nat.le_trans (M.rw w hw).1 h1, (M.rw w hw).2⟩, M.ev, Nat.le_trans M.el h2, Nat.le_trans M.cn h2⟩
theorem MdOk.add {hands nl R N : Nat} {m : Md} (M : MdOk hands nl R N m) {h x : Nat} (hh : h < hands) (hx : x < nl) : MdOk hands nl R (N + 1) (addE m h x) := by
  refine ⟨M.rl, M.rw, fun v hv => ?_, ?_, Nat.succ_le_succ M.cn⟩
  · unfold addE at hv
    rcases List.mem_append.mp hv with z | z
    · exact M.ev v z
    · rw [List.mem_singleton.mp z]; exact ⟨hh, hx⟩
  · unfold addE
    rw [List.length_append]
    exact Nat.succ_le_succ M.el
theorem MdOk.set {hands nl R N : Nat} {m : Md} (M : MdOk hands nl R N m) {h : Nat} {w : List Nat} (hw : w.length ≤ R ∧ ∀ x ∈ w, x < nl) : MdOk hands nl R N ⟨m.rows.set h w, m.evs, m.cnt⟩ := by
  refine ⟨by rw [List.length_set]; exact M.rl, fun v hv => ?_, M.ev, M.el, M.cn⟩
  rcases List.mem_or_eq_of_mem_set hv with z | z
  · exact M.rw v z
  · rw [z]; exact hw
theorem MdOk.op {hands nl R N kind x : Nat} {hand : Int} {q : Nat → Nat → Bool} {m : Md} (M : MdOk hands nl R N m) (hN : N ≤ 44) (hx : x < nl) : MdOk hands nl (R + 2025) (N + 1) (op q m kind hand x).2 := by
  have M' : MdOk hands nl (R + 2025) (N + 1) m := M.mono (by omega) (by omega)
  unfold K78.op
  by_cases hh : 0 ≤ hand ∧ hand < m.rows.length
  · rw [if_pos hh]
    have hh' : hand.toNat < m.rows.length := by omega
    have hl : hand.toNat < hands := by rw [← M.rl]; exact hh'
    by_cases k0 : kind = 0
    · rw [if_pos k0]
      exact ((M.set ⟨Nat.zero_le _, fun x hx => by cases hx⟩).add hl hx).mono (by omega) (Nat.le_refl _)
    · rw [if_neg k0]
      by_cases k3 : kind = 3
      · rw [if_pos k3]
        have rm := M.rw _ (row_mem hh')
        rcases last_cases (row m.rows hand.toNat) with ⟨z, hn⟩ | ⟨ys, l, z, hn⟩
        · rw [hn]; exact M'
        · rw [hn]
          have dl : ((row m.rows hand.toNat).dropLast).length ≤ R ∧ ∀ x ∈ (row m.rows hand.toNat).dropLast, x < nl := ⟨by rw [List.length_dropLast]; omega, fun x hx => rm.2 x (List.dropLast_subset _ hx)⟩
          exact ((M.set dl).add hl (rm.2 l (by rw [z]; simp))).mono (by omega) (Nat.le_refl _)
      · rw [if_neg k3]
        rcases last_cases (nums m hand.toNat) with ⟨z, hn⟩ | ⟨ys, n, z, hn⟩
        · rw [hn]; exact M'
        · rw [hn]
          dsimp only
          by_cases k1 : kind = 1
          · rw [if_pos k1]
            split
            · exact M.bk.mono (by omega) (by omega)
            · exact M'
          · rw [if_neg k1]
            have rl : (rst q n m.evs).length ≤ N := by
              have := (rsts_len (q := q) (n := n) (es := m.evs) m.evs.length (Nat.le_refl _)).1
              have := M.el
              unfold rst
              omega
            have := Nat.mul_le_mul hN (show (rst q n m.evs).reverse.length ≤ 44 by rw [List.length_reverse]; omega)
            exact (M.bks _).mono (by omega) (by omega)
  · rw [if_neg hh]; exact M'
theorem ok_ready : PyData.strOk "ready" = true := by decide +kernel
theorem ok_hand : PyData.strOk "hand" = true := by decide +kernel
theorem op_pln {q : Nat → Nat → Bool} {m : Md} {kind x : Nat} {hand : Int} (hl : m.evs.length ≤ 1000) : pln 8 (op q m kind hand x).1 = true := by
  have rl : ∀ n, (rst q n m.evs).length ≤ 1000 := fun n => by
    have := (rsts_len (q := q) (n := n) (es := m.evs) m.evs.length (Nat.le_refl _)).1
    unfold rst
    omega
  have r1 : pln 8 (.str "ready") = true := ok_ready
  have r2 : pln 8 (.str "hand") = true := ok_hand
  unfold op
  split
  · split
    · rfl
    · split
      · split
        · exact r1
        · rfl
      · split
        · exact r1
        · split
          · split
            · rfl
            · exact r1
          · exact pln_nL (k := 6) (by have := rl (by assumption); omega)
  · exact r2
theorem ev_pln {es : List Ev} (hl : es.length ≤ 1000) : pln 8 (.lst (es.map evD)) = true := pln_lst (by simp; omega) fun d hd => by
  obtain ⟨v, _, rfl⟩ := List.mem_map.mp hd
  exact pln_tup (by simp) fun d hd => by
    simp only [List.mem_cons, List.not_mem_nil, or_false] at hd
    rcases hd with rfl | rfl | rfl <;> rfl
/-- the table at the beginning -/
def m0 (hands : Nat) : Md := ⟨List.replicate hands [], [], 0⟩
theorem m0_ok {hands nl : Nat} : MdOk hands nl 0 0 (m0 hands) := by
  refine ⟨by unfold m0; simp, fun w hw => ?_, (fun v hv => by cases hv), Nat.le_refl _, Nat.le_refl _⟩
  have : w = [] := List.eq_of_mem_replicate hw
  subst this
  exact ⟨Nat.le_refl _, fun x hx => by cases hx⟩
theorem comp_empty (hands i : Nat) (hh : hands ≤ 10) (b : Nat) (s : Sl) (H : Own) : compGo none (tN i) bYes (eTup aNil) b s (rngD 0 hands) H [] = .ok (.n (.lst ((m0 hands).rows.map wD))) H := by
  rw [comp_range (fun _ => true) (fun _ => .tup []) hands (fun k hk => ⟨_, rfl, rfl, fun _ => by simp [sz 0]⟩) (sz _ (by omega))]
  have hf : (List.range hands).filter (fun _ => true) = List.range hands := List.filter_eq_self.mpr fun _ _ => rfl
  rw [hf]
  unfold m0
  rw [List.map_replicate]
  congr 3
  rw [List.eq_replicate_iff]
  refine ⟨by simp, fun d hd => ?_⟩
  obtain ⟨x, _, rfl⟩ := List.mem_map.mp hd
  rfl
theorem init_ok {P : Nat} {L : List (List Nat)} {hands : Nat} (h1 : 1 ≤ hands) (h4 : hands ≤ 4) (h : Own) :
    ∃ s, B_Table___init__ h.length [.ref h.length, aD P L, nD hands] (h ++ [.ins 1 []]) = .next s (h ++ [.ins 1 [aD P L, .ref (h.length + 1), .ref (h.length + 2), nD 0], .lst ((m0 hands).rows.map wD), .lst ((m0 hands).evs.map evD)]) := by
  have key : W (B_Table___init__ h.length [.ref h.length, aD P L, nD hands] (h ++ [.ins 1 []])) fun r => ∃ s, r = .next s (h ++ [.ins 1 [aD P L, .ref (h.length + 1), .ref (h.length + 2), nD 0], .lst ((m0 hands).rows.map wD), .lst ((m0 hands).evs.map evD)]) := by
    unfold B_Table___init__ body S_Table___init__
    show W (sSeq _ _ ⟨h.length, [some (.ref h.length), some (aD P L), some (nD hands), none]⟩ _) _
    have i1 : (1 : Int) ≤ (hands : Int) := by omega
    have i4 : (hands : Int) ≤ 4 := by omega
    refine W_step (s' := [some (.ref h.length), some (aD P L), some (nD hands), none]) (h' := h ++ [.ins 1 []]) (by simp [i1, i4]) ?_
    refine W_step (s' := [some (.ref h.length), some (aD P L), some (nD hands), none]) (h' := h ++ [.ins 1 [aD P L]]) (by simp [attD]) ?_
    refine W_step (s' := [some (.ref h.length), some (aD P L), some (nD hands), none]) (h' := h ++ [.ins 1 [aD P L, .ref (h.length + 1)], .lst ((m0 hands).rows.map wD)]) ?_ ?_
    · have c := comp_empty hands 3 (by omega) h.length [some (.ref h.length), some (aD P L), some (nD hands), none] (h ++ [.ins 1 [aD P L]])
      have r := r62 (show hands ≤ 1000000 by omega)
      simp [r, c, attD]
    refine W_step (s' := [some (.ref h.length), some (aD P L), some (nD hands), none]) (h' := h ++ [.ins 1 [aD P L, .ref (h.length + 1), .ref (h.length + 2)], .lst ((m0 hands).rows.map wD), .lst []]) ?_ ?_
    · simp [sz 0, attD]
    simp [attD]
    exact W_ok ⟨_, rfl⟩
  exact key
theorem init_no {P : Nat} {L : List (List Nat)} {hands : Int} (hh : ¬ (1 ≤ hands ∧ hands ≤ 4)) (h : Own) : ∃ s, B_Table___init__ h.length [.ref h.length, aD P L, .int hands] (h ++ [.ins 1 []]) = .exc 3 s (h ++ [.ins 1 []]) := by
  have key : W (B_Table___init__ h.length [.ref h.length, aD P L, .int hands] (h ++ [.ins 1 []])) fun r => ∃ s, r = .exc 3 s (h ++ [.ins 1 []]) := by
    unfold B_Table___init__ body S_Table___init__
    show W (sSeq _ _ ⟨h.length, [some (.ref h.length), some (aD P L), some (.int hands), none]⟩ _) _
    by_cases z : 1 ≤ hands
    · have z2 : ¬ hands ≤ 4 := fun y => hh ⟨z, y⟩
      simp only [W_seq, sIf_eq, sE_eq, bNot_eq, eTB_eq, eCh_eq, eC_eq, eVar_eq, List.getElem?_cons_succ, List.getElem?_cons_zero, Res.bind_ok, fLe_ii, z, z2, decide_true, decide_false]
      simp
      exact W_ok ⟨_, rfl⟩
    · simp only [W_seq, sIf_eq, sE_eq, bNot_eq, eTB_eq, eCh_eq, eC_eq, eVar_eq, List.getElem?_cons_succ, List.getElem?_cons_zero, Res.bind_ok, fLe_ii, z, decide_false]
      simp
      exact W_ok ⟨_, rfl⟩
  exact key
def qL (L : List (List Nat)) (p a : Nat) : Bool := has (pl L a) p
theorem sysL (L : List (List Nat)) : Sys (meet L) (qL L) := fun a b => by
  unfold meet qL
  rw [List.any_eq_true]
  constructor
  · rintro ⟨p, h1, h2⟩
    exact ⟨p, has_iff.mpr h1, h2⟩
  · rintro ⟨p, h1, h2⟩
    exact ⟨p, has_iff.mp h1, h2⟩
theorem pw_least {L : List (List Nat)} (p : Nat) (w : List Nat) : pw L p (least (meet L) w) = pw L p w := least_proj (sysL L) p w
end K78
set_option Elab.async false
set_option linter.all false
set_option maxRecDepth 100000
set_option maxHeartbeats 4000000
/-! the law. -/
namespace K78
open PySem PySem.Spec L2 Z TT
noncomputable def LT_0 : ST := (sSet 1 (eAl (eCall 2 B__law_draws (aCons (eVar 0) (aCons (eC (.int 300)) aNil)))))
noncomputable def LT_1 : ST := (sA (ed (eCall 3 B__law_alphabet (aCons (eVar 1) (aCons (eC (.int 4)) (aCons (eC (.int 5)) aNil))))) (tTup (tCons (tN 2) (tCons (tN 3) tNil))))
noncomputable def LT_2 : ST := (sSet 4 (ed (eMk 0 3 B_Alphabet___init__ (aCons (eVar 2) (aCons (eVar 3) aNil)))))
noncomputable def LT_3 : ST := (sSet 5 (ed (e2 fAdd (eC (.int 1)) (ed (eCall 2 B__law_take (aCons (eVar 1) (aCons (eC (.int 4)) aNil)))))))
noncomputable def LT_4 : ST := (sSet 6 (ed (eMkK 1 3 B_Table___init__ (aCons (eVar 4) (aCons (eVar 5) aNil)))))
noncomputable def LT_5 : ST := (sSet 7 (eAl (eDisp (pCons (eC (.str "events")) (ed (eLst aNil)) (pCons (eC (.str "rows")) (eAl (eComp (iR1 (aCons (eVar 5) aNil)) (tN 8) bYes (eTup aNil) [8])) (pCons (eC (.str "count")) (eC (.int 0)) pNil))))))
noncomputable def LP6_0 : ST := (sPar3 12 8 13 (aCons (ed (e2 fIx (eTup (aCons (eC (.int 0)) (aCons (eC (.int 0)) (aCons (eC (.int 0)) (aCons (eC (.int 1)) (aCons (eC (.int 1)) (aCons (eC (.int 2)) (aCons (eC (.int 3)) (aCons (eC (.int 2)) aNil))))))))) (ed (eCall 2 B__law_take (aCons (eVar 1) (aCons (eC (.int 8)) aNil)))))) (aCons (ed (e2 fSub (ed (eCall 2 B__law_take (aCons (eVar 1) (aCons (ed (e2 fAdd (eVar 5) (eC (.int 2)))) aNil)))) (eC (.int 1)))) (aCons (ed (eCall 2 B__law_take (aCons (eVar 1) (aCons (ed (eA fLen (aCons (eVar 3) aNil))) aNil)))) aNil))))
noncomputable def LP6_1 : ST := (sSet 10 (ed (eCall 6 B__law_due (aCons (eVar 1) (aCons (eVar 3) (aCons (eVar 7) (aCons (eVar 12) (aCons (eVar 8) (aCons (eVar 13) aNil)))))))))
noncomputable def LP6_2 : ST := (sIf (bOr (bNot (eT (ed (eCall 2 (B__law_same 8) (aCons (ed (eCallC clE 4 B__law_called (aCons (eVar 6) (aCons (eVar 12) (aCons (eVar 8) (aCons (eVar 13) aNil)))))) (aCons (eVar 10) aNil)))))) (bNot (eT (ed (eCall 2 (B__law_same 8) (aCons (ed (eMeth clN 1 1 B_Table_events (eVar 6) aNil)) (aCons (ed (e2 fIx (eVar 7) (eC (.str "events")))) aNil))))))) (sRet (ev (eC (.bl false)))) sPass)
noncomputable def LP6_3 : ST := (sFor (iR1 (aCons (eVar 5) aNil)) (tN 11) (sSeq (sSet 14 (ed (e2 fIx (eVar 7) (eC (.str "rows"))))) (sIf (bNot (eT (ed (eCall 2 (B__law_same 8) (aCons (ed (eMeth clN 1 2 B_Table_row (eVar 6) (aCons (eVar 11) aNil))) (aCons (ed (e2 fIx (eVar 14) (eVar 11))) aNil)))))) (sRet (ev (eC (.bl false)))) sPass)) [11, 14])
noncomputable def LP6_4 : ST := (sIf (bNot (eT (ed (eCall 3 B_equivalent (aCons (eVar 4) (aCons (ed (eMeth clN 1 1 B_Table_word (eVar 6) aNil)) (aCons (ed (eA fTuple (aCons (ed (eComp (iSeq (ed (e2 fIx (eVar 7) (eC (.str "events"))))) (tN 15) bYes (ed (e2 fIx (eVar 15) (eC (.int 2)))) [15])) aNil))) aNil))))))) (sRet (ev (eC (.bl false)))) sPass)
noncomputable def LT_6 : ST := (sFor (iR1 (aCons (ed (e2 fAdd (eC (.int 20)) (ed (eCall 2 B__law_take (aCons (eVar 1) (aCons (eC (.int 25)) aNil)))))) aNil)) (tN 9) (sSeq LP6_0 (sSeq LP6_1 (sSeq LP6_2 (sSeq LP6_3 LP6_4)))) [8, 9, 10, 11, 12, 13, 14])
noncomputable def LT_7 : ST := (sFor (iSeq (eTup (aCons (eC (.int 0)) (aCons (eC (.int 5)) (aCons (ed (e2 fSub (eC (.int 0)) (eC (.int 1)))) aNil))))) (tN 16) (sIf (eTB (e2 fNe (ed (eLam 1 (tlTold 3 "hand" 2 "ready") (eMkK 1 3 B_Table___init__ (aCons (eVar 4) (aCons (eVar 16) aNil))))) (eC (.str "hand")))) (sRet (ev (eC (.bl false)))) sPass) [16])
noncomputable def LT_8 : ST := (sIf (bNot (eTB (e2 fEq (ed (eLam 1 (tlTold 3 "hand" 2 "ready") (eMeth clN 1 2 B_Table_row (eVar 6) (aCons (eVar 5) aNil)))) (eC (.str "hand"))))) (sRet (ev (eC (.bl false)))) sPass)
noncomputable def LT_9 : ST := (sRet (e2 fEq (ed (eLam 1 (tlTold 3 "hand" 2 "ready") (eMeth clN 1 2 B_Table_row (eVar 6) (aCons (ed (e2 fSub (eC (.int 0)) (eC (.int 1)))) aNil)))) (eC (.str "hand"))))
/-- the heap between two steps of the law: mt the table's, mm the law's own -/
structure LH (H : Own) (P : Nat) (L : List (List Nat)) (mt mm : Md) : Prop where
  t0 : H[0]? = some (.tb 0)
  t1 : H[1]? = some (.tb 1)
  dr : ∃ ds, Dr H 2 ds
  ts : ∃ e, TS H 3 4 e P L mt ∧ (e = 5 ∨ 8 ≤ e)
  ms : MS H 7 6 mm
  le : 8 ≤ H.length
section
variable {H H' : Own} {P : Nat} {L : List (List Nat)} {mt mm : Md}
theorem LH.draw (h : LH H P L mt mm) (ds : List Int) : LH (H.set 2 (iL ds)) P L mt mm := by
  obtain ⟨t0, t1, ⟨ds0, d0⟩, ⟨e, T, he⟩, M, le⟩ := h
  have e2 : e ≠ 2 := by omega
  refine ⟨?_, ?_, ⟨ds, get_set_self (by omega)⟩, ⟨e, ⟨?_, ?_, ?_, T.ne⟩, he⟩, ⟨?_, ?_⟩, by simpa using le⟩
  · rw [get_set_ne (by decide)]; exact t0
  · rw [get_set_ne (by decide)]; exact t1
  · rw [get_set_ne (by decide)]; exact T.it
  · rw [get_set_ne (by decide)]; exact T.ir
  · rw [get_set_ne (Ne.symm e2)]; exact T.ie
  · rw [get_set_ne (by decide)]; exact M.im
  · rw [get_set_ne (by decide)]; exact M.iq
theorem LH.due {mm' : Md} (h : LH H P L mt mm) (M' : MS H' 7 6 mm') (F : Fr2 H H' 7 6) : LH H' P L mt mm' := by
  obtain ⟨t0, t1, ⟨ds0, d0⟩, ⟨e, T, he⟩, M, le⟩ := h
  have g : ∀ i, i ≠ 7 → i ≠ 6 → H'[i]? = H[i]? := F.fr
  refine ⟨?_, ?_, ⟨ds0, ?_⟩, ⟨e, ⟨?_, ?_, ?_, T.ne⟩, he⟩, M', by rw [F.le]; exact le⟩
  · rw [g _ (by decide) (by decide)]; exact t0
  · rw [g _ (by decide) (by decide)]; exact t1
  · unfold Dr; rw [g _ (by decide) (by decide)]; exact d0
  · rw [g _ (by decide) (by decide)]; exact T.it
  · rw [g _ (by decide) (by decide)]; exact T.ir
  · rw [g _ (by omega) (by omega)]; exact T.ie
theorem LH.call {mt' : Md} {e e' : Nat} (h : LH H P L mt mm) (he : e = 5 ∨ 8 ≤ e) (T' : TS H' 3 4 e' P L mt') (F : Fr3 H H' 3 4 e e') : LH H' P L mt' mm := by
  obtain ⟨t0, t1, ⟨ds0, d0⟩, _, M, le⟩ := h
  have g : ∀ i, i < 8 → i ≠ 3 → i ≠ 4 → i ≠ 5 → H'[i]? = H[i]? := fun i h1 h2 h3 h4 => F.fr i (by omega) h2 h3 (by omega)
  refine ⟨?_, ?_, ⟨ds0, ?_⟩, ⟨e', T', ?_⟩, ⟨?_, ?_⟩, Nat.le_trans le F.le⟩
  · rw [g _ (by decide) (by decide) (by decide) (by decide)]; exact t0
  · rw [g _ (by decide) (by decide) (by decide) (by decide)]; exact t1
  · unfold Dr; rw [g _ (by decide) (by decide) (by decide) (by decide)]; exact d0
  · rcases F.ee with z | z
    · rw [z]; exact he
    · exact .inr (by omega)
  · rw [g _ (by decide) (by decide) (by decide) (by decide)]; exact M.im
  · rw [g _ (by decide) (by decide) (by decide) (by decide)]; exact M.iq
theorem LH.push (h : LH H P L mt mm) (o : Z.O) : LH (H ++ [o]) P L mt mm := by
  obtain ⟨t0, t1, ⟨ds0, d0⟩, ⟨e, T, he⟩, M, le⟩ := h
  exact ⟨get_push t0, get_push t1, ⟨ds0, get_push d0⟩, ⟨e, ⟨get_push T.it, get_push T.ir, get_push T.ie, T.ne⟩, he⟩, ⟨get_push M.im, get_push M.iq⟩, by simp; omega⟩
end
abbrev SB (ns : List Int) (P : Nat) (L : List (List Nat)) (hands : Nat) (y8 y9 y10 y11 y12 y13 y14 y15 y16 : Option Z.D) : Sl := [some (.ro ns), some (.ref 2), some (nD P), some (lD L), some (aD P L), some (nD hands), some (.ref 3), some (.ref 7), y8, y9, y10, y11, y12, y13, y14, y15, y16]
inductive LI (ns : List Int) (P : Nat) (L : List (List Nat)) (hands k : Nat) (s : Sl) (H : Own) : Prop
  | mk (m : Md) (hs : s = SB ns P L hands none none none none none none none none none) (h : LH H P L m m) (M : MdOk hands L.length (2025 * k) k m)
section
variable {ns : List Int} {P hands : Nat} {L : List (List Nat)}
theorem rows_ok {H : Own} {m : Md} {R N : Nat} (h : LH H P L m m) (M : MdOk hands L.length R N m) (hR : R ≤ 100000) (h4 : hands ≤ 4) {y8 y9 y10 y12 y13 : Option Z.D} :
    W (LP6_3 ⟨0, SB ns P L hands y8 y9 y10 none y12 y13 none none none⟩ H) fun r => r = .next (SB ns P L hands y8 y9 y10 none y12 y13 none none none) H := by
  obtain ⟨e, T, he⟩ := h.ts
  unfold LP6_3
  have r := r62 (show hands ≤ 1000000 by omega)
  simp [SB, r]
  refine W_range hands (fun _ s H' => s = SB ns P L hands y8 y9 y10 none y12 y13 none none none ∧ H' = H) ⟨rfl, rfl⟩ ?_ ?_
  · rintro k s H' hk ⟨rfl, rfl⟩
    refine ⟨_, _, rfl, ?_⟩
    have hk' : k < m.rows.length := by rw [M.rl]; exact hk
    have gr := h.ms.grow
    have ro := row_ok T hk'
    have ix : fIx (.ref 6) (nD k) H' = .ok (.v (wD (row m.rows k))) H' := fIx_q (asQ_ref h.ms.iq) rfl (by rw [List.getElem?_map, row_of hk']; rfl)
    have sm := same_pl 8 (wD (row m.rows k)) (pln_wD (k := 6) (by have := (M.rw _ (row_mem hk')).1; omega)) H'
    have it := T.it
    generalize wD (row m.rows k) = d at *
    simp [gr, it, ro, ix, sm]
  · rintro s H' ⟨rfl, rfl⟩
    rfl
end
end K78
set_option Elab.async false
set_option linter.all false
set_option maxRecDepth 100000
set_option maxHeartbeats 4000000
/-! the law. -/
namespace K78
open PySem PySem.Spec L2 Z TT
theorem fineL {P : Nat} {L : List (List Nat)} (A : Alph P L) : Fine L := ⟨by have := A.l2; omega, A.l1⟩
theorem shL {P : Nat} {L : List (List Nat)} (A : Alph P L) : ∀ l ∈ L, l.length ≤ 100 := fun l hl => by have := (A.le l hl).sh; omega
section
variable {ns : List Int} {P hands : Nat} {L : List (List Nat)}
theorem word_ok (A : Alph P L) {H : Own} {m : Md} {R N : Nat} (h : LH H P L m m) (M : MdOk hands L.length R N m) (hN : N ≤ 100) {y8 y9 y10 y11 y12 y13 y14 : Option Z.D} :
    LP6_4 ⟨0, SB ns P L hands y8 y9 y10 y11 y12 y13 y14 none none⟩ H = .next (SB ns P L hands y8 y9 y10 y11 y12 y13 y14 none none) H := by
  obtain ⟨e, T, he⟩ := h.ts
  have el := M.el
  have hv : ∀ v ∈ m.evs, v.2.2 < L.length := fun v hv => (M.ev v hv).2
  have w := word_eq T (fineL A) (by omega) hv
  have gev := h.ms.gev
  have cm : compGo none (tN 15) bYes (ed (e2 fIx (eVar 15) (eC (.int 2)))) 0 (SB ns P L hands y8 y9 y10 y11 y12 y13 y14 none none) (m.evs.map evD) H [] = .ok (.n (.lst ((ltrs m).map nD))) H := by
    rw [comp_pure evD (fun _ => true) (fun v : Ev => nD v.2.2) (by simp) m.evs []]
    · have hf : m.evs.filter (fun _ => true) = m.evs := List.filter_eq_self.mpr fun _ _ => rfl
      rw [hf]
      unfold ltrs
      rw [List.map_map]
      rfl
    · rintro ⟨i, hd, x⟩ hv
      have ix : fIx (evD (i, hd, x)) (.int 2) H = .ok (.v (nD x)) H := fIx_q (k := 2) rfl rfl rfl
      refine ⟨_, rfl, rfl, fun _ => ?_⟩
      simp [ix]
    · exact sz _ (by simp; omega)
  have fw : Fit L (ltrs m) := ⟨by unfold ltrs; rw [List.length_map]; omega, fun x hx => by
    unfold ltrs at hx
    obtain ⟨v, hv', rfl⟩ := List.mem_map.mp hx
    exact hv v hv'⟩
  have eqv := equivalent_eq (P := P) (by have := A.p2; omega) (fw.least (m := meet L)) fw H fun p _ => pw_least p (ltrs m)
  have it := T.it
  unfold LP6_4
  generalize least (meet L) (ltrs m) = u at *
  generalize hz : (ltrs m).map nD = z at *
  have hw : wD (ltrs m) = .tup z := by rw [wD, hz]
  rw [hw] at eqv
  simp [SB] at cm ⊢
  simp [it, w, gev, cm, eqv]
/-- one turn -/
theorem turn_ok (A : Alph P L) (h1 : 1 ≤ hands) (h4 : hands ≤ 4) {k : Nat} {H : Own} {Q : SRes → Prop} (hk : k < 45) (I : LI ns P L hands k (SB ns P L hands none none none none none none none none none) H) {y9 : Option Z.D} :
    W (sSeq LP6_0 (sSeq LP6_1 (sSeq LP6_2 (sSeq LP6_3 LP6_4))) ⟨0, SB ns P L hands none y9 none none none none none none none⟩ H) (Turn [8, 9, 10, 11, 12, 13, 14] (LI ns P L hands (k + 1)) Q) := by
  obtain ⟨m, _, h, M⟩ := I
  obtain ⟨ds0, d0⟩ := h.dr
  -- the draws
  obtain ⟨a, ds1, ha, c1⟩ := take_eq d0 (n := 8) (by decide)
  have hA := h.draw ds1
  have d1 : Dr (H.set 2 (iL ds1)) 2 ds1 := get_set_self (by have := h.le; omega)
  generalize H.set 2 (iL ds1) = H1 at *
  obtain ⟨b, ds2, hb, c2⟩ := take_eq d1 (n := hands + 2) (by omega)
  have hB := hA.draw ds2
  have d2 : Dr (H1.set 2 (iL ds2)) 2 ds2 := get_set_self (by have := hA.le; omega)
  generalize H1.set 2 (iL ds2) = H2 at *
  obtain ⟨x, ds3, hx, c3⟩ := take_eq d2 (n := L.length) (by have := A.l1; omega)
  have hC := hB.draw ds3
  generalize H2.set 2 (iL ds3) = H3 at *
  obtain ⟨kind, hkind, ik⟩ : ∃ kind : Nat, kind < 4 ∧ ∀ H, fIx (.tup [.int 0, .int 0, .int 0, .int 1, .int 1, .int 2, .int 3, .int 2]) (nD a) H = .ok (.v (nD kind)) H := by
    have g : ∀ (kind : Nat) (H : Own), [Z.D.int 0, .int 0, .int 0, .int 1, .int 1, .int 2, .int 3, .int 2][a]? = some (nD kind) → fIx (.tup [.int 0, .int 0, .int 0, .int 1, .int 1, .int 2, .int 3, .int 2]) (nD a) H = .ok (.v (nD kind)) H := fun kind H e => fIx_q rfl rfl e
    rcases (show a = 0 ∨ a = 1 ∨ a = 2 ∨ a = 3 ∨ a = 4 ∨ a = 5 ∨ a = 6 ∨ a = 7 by omega) with rfl | rfl | rfl | rfl | rfl | rfl | rfl | rfl
    · exact ⟨0, by decide, fun H => g 0 H rfl⟩
    · exact ⟨0, by decide, fun H => g 0 H rfl⟩
    · exact ⟨0, by decide, fun H => g 0 H rfl⟩
    · exact ⟨1, by decide, fun H => g 1 H rfl⟩
    · exact ⟨1, by decide, fun H => g 1 H rfl⟩
    · exact ⟨2, by decide, fun H => g 2 H rfl⟩
    · exact ⟨3, by decide, fun H => g 3 H rfl⟩
    · exact ⟨2, by decide, fun H => g 2 H rfl⟩
  have c1' : callB B__law_take [.ref 2, .int 8] H = .ok (.v (nD a)) H1 := c1
  have c2' : callB B__law_take [.ref 2, .int ((hands : Int) + 2)] H1 = .ok (.v (nD b)) H2 := c2
  have hll : fLen [lD L] H2 = .ok (.v (.int (L.length : Int))) H2 := by unfold lD; rw [fLen_lst, List.length_map]
  refine W_step (s' := SB ns P L hands (some (.int ((b : Int) - 1))) y9 none none (some (nD kind)) (some (nD x)) none none none) (h' := H3) ?_ ?_
  · unfold LP6_0
    have s8 : (8 : Nat) ≤ sizeLine := by decide
    simp [SB, s8, c1', ik, c2', hll, c3]
  -- what is due
  obtain ⟨H4, c4, M4, F4⟩ := due_eq (d := 2) (kind := kind) (x := x) (hand := (b : Int) - 1) hC.ms M (shL A) (by omega) (by omega) hkind hx
  have hD := hC.due M4 F4
  refine W_step (s' := SB ns P L hands (some (.int ((b : Int) - 1))) y9 (some (op (meet L) m kind ((b : Int) - 1) x).1) none (some (nD kind)) (some (nD x)) none none none) (h' := H4) ?_ ?_
  · unfold LP6_1
    simp [SB, c4]
  -- what the table tells
  obtain ⟨e, T, he⟩ := hD.ts
  obtain ⟨H5, e', c5, T5, F5⟩ := called_eq (kind := kind) (x := x) (hand := (b : Int) - 1) hD.t0 T M (by omega) (by omega) hkind hx
  have hE := hD.call he T5 F5
  have el := M.el
  have pl1 := same_pl 8 _ (op_pln (q := meet L) (m := m) (kind := kind) (hand := (b : Int) - 1) (x := x) (by omega)) H5
  have M5 : MdOk hands L.length (2025 * (k + 1)) (k + 1) (op (meet L) m kind ((b : Int) - 1) x).2 := (M.op (kind := kind) (x := x) (hand := (b : Int) - 1) (q := meet L) (by omega) hx).mono (by omega) (Nat.le_refl _)
  generalize op (meet L) m kind ((b : Int) - 1) x = res at *
  obtain ⟨told, m'⟩ := res
  dsimp only at *
  have el' := M5.el
  refine W_step (s' := SB ns P L hands (some (.int ((b : Int) - 1))) y9 (some told) none (some (nD kind)) (some (nD x)) none none none) (h' := H5) ?_ ?_
  · unfold LP6_2
    have ev := events_eq T5
    have it := T5.it
    have gev := hE.ms.gev
    have pl2 := same_pl 8 _ (ev_pln (es := m'.evs) (by omega)) H5
    generalize m'.evs.map evD = E' at *
    simp [SB, c5, pl1, it, ev, gev, pl2]
  -- the rows
  refine W_stepW (rows_ok hE M5 (by omega) h4) ?_
  rintro _ rfl
  refine ⟨_, _, rfl, ?_⟩
  unfold W
  rw [word_ok A hE M5 (by omega)]
  exact ⟨m', rfl, hE, M5⟩
end
end K78
set_option Elab.async false
set_option linter.all false
set_option maxRecDepth 100000
set_option maxHeartbeats 4000000
/-! the law. -/
namespace K78
open PySem PySem.Spec L2 Z TT
section
variable {ns : List Int} {P hands : Nat} {L : List (List Nat)}
theorem bad_ok {H : Own} {m : Md} (h : LH H P L m m) : W (LT_7 ⟨0, SB ns P L hands none none none none none none none none none⟩ H) fun r => ∃ H', r = .next (SB ns P L hands none none none none none none none none none) H' ∧ LH H' P L m m := by
  unfold LT_7
  have s3 : (3 : Nat) ≤ sizeLine := by decide
  simp only [sFor_eq, sE_eq, iSeq_eq, eTup_eq, aCons_eq, aNil_eq, eC_eq, ed_eq, e2_eq, fSub_ii, Res.bind_ok, List.length_cons, List.length_nil, Nat.reduceAdd, s3, if_true]
  have e3 : ([.int 0, .int 5, .int (0 - 1)] : List Z.D) = ([0, 5, -1] : List Int).map Z.D.int := by simp
  rw [e3]
  refine W_list Z.D.int [0, 5, -1] (fun _ s H' => s = SB ns P L hands none none none none none none none none none ∧ LH H' P L m m) ⟨rfl, h⟩ (fun _ _ _ _ _ => by simp) ?_ ?_
  · rintro k s H' hk ⟨rfl, h'⟩
    obtain ⟨bad, eb, hb⟩ : ∃ bad : Int, ([(0 : Int), 5, -1] : List Int)[k] = bad ∧ ¬ (1 ≤ bad ∧ bad ≤ 4) := by
      refine ⟨_, rfl, ?_⟩
      have hm : ([(0 : Int), 5, -1] : List Int)[k] ∈ ([(0 : Int), 5, -1] : List Int) := List.getElem_mem hk
      simp only [List.mem_cons, List.not_mem_nil, or_false] at hm
      omega
    rw [eb]
    refine ⟨SB ns P L hands none none none none none none none none (some (.int bad)), H', rfl, ?_⟩
    obtain ⟨s', i⟩ := init_no (P := P) (L := L) hb H'
    have tb := isTb_of h'.t1
    have ne := fNe_ss ok_hand (h := H' ++ [.ins 1 []])
    have hp := h'.push (.ins 1 [])
    clear h h'
    simp [SB, tb, i, ne]
    exact hp
  · rintro s H' ⟨rfl, h'⟩
    exact ⟨_, rfl, h'⟩
theorem loop_ok (A : Alph P L) (h1 : 1 ≤ hands) (h4 : hands ≤ 4) {H : Own} (h : LH H P L (m0 hands) (m0 hands)) : W (LT_6 ⟨0, SB ns P L hands none none none none none none none none none⟩ H) fun r => ∃ H' m, r = .next (SB ns P L hands none none none none none none none none none) H' ∧ LH H' P L m m ∧ m.rows.length = hands := by
  obtain ⟨ds0, d0⟩ := h.dr
  obtain ⟨a, ds1, ha, c1⟩ := take_eq d0 (n := 25) (by decide)
  have c1' : callB B__law_take [.ref 2, .int 25] H = .ok (.v (nD a)) (H.set 2 (iL ds1)) := c1
  have hA := h.draw ds1
  generalize H.set 2 (iL ds1) = H1 at *
  unfold LT_6
  have r : R62 ((20 : Int) + (a : Int)) := r62i (by omega) (by omega)
  have e : ((20 : Int) + (a : Int)).toNat = 20 + a := by omega
  simp [SB, c1', r, e]
  refine W_range (20 + a) (LI ns P L hands) ⟨m0 hands, rfl, hA, by simpa using m0_ok⟩ ?_ ?_
  · rintro k s H' hk I
    obtain ⟨m, rfl, hh, M⟩ := I
    exact ⟨_, _, rfl, turn_ok A h1 h4 (by omega) ⟨m, rfl, hh, M⟩⟩
  · rintro s H' ⟨m, rfl, hh, M⟩
    first
      | exact ⟨_, m, rfl, hh, M.rl⟩
      | exact ⟨_, rfl, m, hh, M.rl⟩
end
theorem law_true (ns : List Int) (hn : ns.length ≤ 63) : ∃ h, B_law 0 [.ro ns] (tabs 2) = .ret (.v (.bl true)) h := by
  obtain ⟨ds, c0⟩ := law_draws_eq 300 (by decide) hn [.tb 0, .tb 1]
  have c0' : callB B__law_draws [.ro ns, .int 300] [.tb 0, .tb 1] = .ok (.n (iL ds)) [.tb 0, .tb 1] := c0
  have key : W (B_law 0 [.ro ns] [.tb 0, .tb 1]) fun r => ∃ h, r = .ret (.v (.bl true)) h := by
    show W (sSeq LT_0 (sSeq LT_1 (sSeq LT_2 (sSeq LT_3 (sSeq LT_4 (sSeq LT_5 (sSeq LT_6 (sSeq LT_7 (sSeq LT_8 LT_9))))))))
      ⟨0, [some (.ro ns), none, none, none, none, none, none, none, none, none, none, none, none, none, none, none, none]⟩ [.tb 0, .tb 1]) _
    refine W_step (s' := [some (.ro ns), some (.ref 2), none, none, none, none, none, none, none, none, none, none, none, none, none, none, none]) (h' := [.tb 0, .tb 1, iL ds]) ?_ ?_
    · unfold LT_0
      simp [c0']
    have d0 : Dr [.tb 0, .tb 1, iL ds] 2 ds := rfl
    obtain ⟨P, L, ds1, A, c1⟩ := law_alphabet_eq d0
    have s1 : ([.tb 0, .tb 1, iL ds] : Own).set 2 (iL ds1) = [.tb 0, .tb 1, iL ds1] := rfl
    rw [s1] at c1
    refine W_step (s' := [some (.ro ns), some (.ref 2), some (nD P), some (lD L), none, none, none, none, none, none, none, none, none, none, none, none, none]) (h' := [.tb 0, .tb 1, iL ds1]) ?_ ?_
    · unfold LT_1
      simp [c1]
    refine W_step (s' := [some (.ro ns), some (.ref 2), some (nD P), some (lD L), some (aD P L), none, none, none, none, none, none, none, none, none, none, none, none]) (h' := [.tb 0, .tb 1, iL ds1]) ?_ ?_
    · unfold LT_2
      have c2 := mk_eq A (xs := aCons (eVar 2) (aCons (eVar 3) aNil)) (τ := ⟨0, [some (.ro ns), some (.ref 2), some (nD P), some (lD L), none, none, none, none, none, none, none, none, none, none, none, none, none]⟩) (h := [.tb 0, .tb 1, iL ds1]) (by simp)
      simp only [sSet_eq, sE_eq, ed_eq, c2, Res.bind_ok, frzO_ins]
      rfl
    have d1 : Dr [.tb 0, .tb 1, iL ds1] 2 ds1 := rfl
    obtain ⟨a, ds2, ha, c3⟩ := take_eq d1 (n := 4) (by decide)
    have s2 : ([.tb 0, .tb 1, iL ds1] : Own).set 2 (iL ds2) = [.tb 0, .tb 1, iL ds2] := rfl
    rw [s2] at c3
    have c3' : callB B__law_take [.ref 2, .int 4] [.tb 0, .tb 1, iL ds1] = .ok (.v (nD a)) [.tb 0, .tb 1, iL ds2] := c3
    obtain ⟨hands, hh⟩ : ∃ hands, hands = 1 + a := ⟨_, rfl⟩
    have h1 : 1 ≤ hands := by omega
    have h4 : hands ≤ 4 := by omega
    have ih : (1 : Int) + (a : Int) = (hands : Int) := by omega
    refine W_step (s' := [some (.ro ns), some (.ref 2), some (nD P), some (lD L), some (aD P L), some (nD hands), none, none, none, none, none, none, none, none, none, none, none]) (h' := [.tb 0, .tb 1, iL ds2]) ?_ ?_
    · unfold LT_3
      simp [c3', ih]
    obtain ⟨s4, i4⟩ := init_ok (P := P) (L := L) h1 h4 [.tb 0, .tb 1, iL ds2]
    have i4' : B_Table___init__ 3 [.ref 3, aD P L, nD hands] [.tb 0, .tb 1, iL ds2, .ins 1 []] = .next s4 [.tb 0, .tb 1, iL ds2, .ins 1 [aD P L, .ref 4, .ref 5, nD 0], .lst ((m0 hands).rows.map wD), .lst ((m0 hands).evs.map evD)] := i4
    refine W_step (s' := [some (.ro ns), some (.ref 2), some (nD P), some (lD L), some (aD P L), some (nD hands), some (.ref 3), none, none, none, none, none, none, none, none, none, none]) (h' := [.tb 0, .tb 1, iL ds2, .ins 1 [aD P L, .ref 4, .ref 5, nD 0], .lst ((m0 hands).rows.map wD), .lst ((m0 hands).evs.map evD)]) ?_ ?_
    · unfold LT_4
      simp [i4']
    refine W_step (s' := SB ns P L hands none none none none none none none none none) (h' := [.tb 0, .tb 1, iL ds2, .ins 1 [aD P L, .ref 4, .ref 5, nD 0], .lst ((m0 hands).rows.map wD), .lst ((m0 hands).evs.map evD), .lst ((m0 hands).rows.map wD), .dK (kv [] 6 0)]) ?_ ?_
    · unfold LT_5
      have r := r62 (show hands ≤ 1000000 by omega)
      have c := comp_empty hands 8 (by omega) 0 [some (.ro ns), some (.ref 2), some (nD P), some (lD L), some (aD P L), some (nD hands), some (.ref 3), none, none, none, none, none, none, none, none, none, none] [.tb 0, .tb 1, iL ds2, .ins 1 [aD P L, .ref 4, .ref 5, nD 0], .lst ((m0 hands).rows.map wD), .lst ((m0 hands).evs.map evD)]
      generalize (m0 hands).rows.map wD = R0 at *
      generalize (m0 hands).evs.map evD = E0 at *
      simp [SB, sz 0, r, c]
      rfl
    have h0 : LH [.tb 0, .tb 1, iL ds2, .ins 1 [aD P L, .ref 4, .ref 5, nD 0], .lst ((m0 hands).rows.map wD), .lst ((m0 hands).evs.map evD), .lst ((m0 hands).rows.map wD), .dK (kv [] 6 0)] P L (m0 hands) (m0 hands) :=
      ⟨rfl, rfl, ⟨ds2, rfl⟩, ⟨5, ⟨rfl, rfl, rfl, by decide⟩, .inl rfl⟩, ⟨rfl, rfl⟩, by simp⟩
    generalize ([.tb 0, .tb 1, iL ds2, .ins 1 [aD P L, .ref 4, .ref 5, nD 0], .lst ((m0 hands).rows.map wD), .lst ((m0 hands).evs.map evD), .lst ((m0 hands).rows.map wD), .dK (kv [] 6 0)] : Own) = H0 at *
    refine W_stepW (loop_ok A h1 h4 h0) ?_
    rintro _ ⟨H1, m, rfl, hA, ml⟩
    refine ⟨_, _, rfl, ?_⟩
    refine W_stepW (bad_ok hA) ?_
    rintro _ ⟨H2, rfl, hB⟩
    refine ⟨_, _, rfl, ?_⟩
    obtain ⟨e, T, he⟩ := hB.ts
    have tb := isTb_of hB.t1
    have n1 := row_no T (hand := (hands : Int)) (by rw [ml]; omega)
    have n2 := row_no T (hand := -1) (by omega)
    have eq := fEq_ss ok_hand (h := H2)
    refine W_step (s' := SB ns P L hands none none none none none none none none none) (h' := H2) ?_ ?_
    · unfold LT_8
      simp [SB, tb, T.it, n1, eq]
    unfold LT_9
    simp [SB, tb, T.it, n2, eq]
    exact W_ok ⟨_, rfl⟩
  exact key
end K78
open PySem PySem.W PyProof.Rows
set_option maxRecDepth 100000 in
set_option maxHeartbeats 0 in
theorem PySem.Challenge.cw_tracetalk_k78_hands_holds : PySem.Challenge.rw_tracetalk_k78_hands.Holds := by
  w_on; o_law; k_head; (case hw => w_witness2)
  k_fill
  refine K78.walk (l := PySem.Challenge.rw_tracetalk_k78_hands) rfl rfl (by intro x hx; simp only [List.mem_cons, List.not_mem_nil, or_false] at hx; rcases hx with rfl | rfl; all_goals exact ⟨_, rfl⟩) K78.law_true (fun w h Y => PySem.W.km_in_of Y) ?F
  case F =>
    intro w mg fa h KX G hmg
    refine' K78.all_mk KX G hmg ?aC_Alphabet ?pg_Alphabet ?hd_Alphabet ?po_Alphabet ?sa_Alphabet ?mk_Alphabet ?kc_Alphabet ?na_Alphabet_places ?na_Alphabet_letters ?aC_Table ?pg_Table ?hd_Table ?po_Table ?sa_Table ?mk_Table ?kc_Table ?na_Table__alphabet ?na_Table__rows ?na_Table__events ?na_Table__count ?aC_InvalidHand ?ex_InvalidHand ?kc_InvalidHand ?sb_InvalidHand ?ty_InvalidHand ?ic_InvalidHand ?sc_InvalidHand ?aC_NotReady ?ex_NotReady ?kc_NotReady ?sb_NotReady ?ty_NotReady ?ic_NotReady ?sc_NotReady ?sc_NotReady_InvalidHand ?a_fits ?l_fits ?cc_fits ?k_fits ?a_independent ?l_independent ?cc_independent ?k_independent ?a_Table___init__ ?i_Table___init__ ?l_Table___init__ ?cc_Table___init__ ?k_Table___init__ ?a_Table__check ?i_Table__check ?l_Table__check ?cc_Table__check ?k_Table__check ?a_Table__add ?i_Table__add ?l_Table__add ?cc_Table__add ?k_Table__add ?a_Table__newest ?i_Table__newest ?l_Table__newest ?cc_Table__newest ?k_Table__newest ?a_Table__take_back ?i_Table__take_back ?l_Table__take_back ?cc_Table__take_back ?k_Table__take_back ?a_Table_events ?i_Table_events ?l_Table_events ?cc_Table_events ?k_Table_events ?a_place_word ?l_place_word ?cc_place_word ?k_place_word ?a__law_draws ?l__law_draws ?cc__law_draws ?k__law_draws ?a__law_take ?l__law_take ?cc__law_take ?k__law_take ?a__law_meet ?l__law_meet ?cc__law_meet ?k__law_meet ?a__law_take_back ?l__law_take_back ?cc__law_take_back ?k__law_take_back ?a__law_add ?l__law_add ?cc__law_add ?k__law_add ?a_Alphabet___init__ ?i_Alphabet___init__ ?l_Alphabet___init__ ?cc_Alphabet___init__ ?k_Alphabet___init__ ?a_masks ?l_masks ?cc_masks ?k_masks ?a_Table__resting ?i_Table__resting ?l_Table__resting ?cc_Table__resting ?k_Table__resting ?a_Table_do ?i_Table_do ?l_Table_do ?cc_Table_do ?k_Table_do ?a_Table_do_again ?i_Table_do_again ?l_Table_do_again ?cc_Table_do_again ?k_Table_do_again ?a_Table_row ?i_Table_row ?l_Table_row ?cc_Table_row ?k_Table_row ?a_equivalent ?l_equivalent ?cc_equivalent ?k_equivalent ?a__law_alphabet ?l__law_alphabet ?cc__law_alphabet ?k__law_alphabet ?a__law_resting ?l__law_resting ?cc__law_resting ?k__law_resting ?a_first_letters ?l_first_letters ?cc_first_letters ?k_first_letters ?a_Table_undo ?i_Table_undo ?l_Table_undo ?cc_Table_undo ?k_Table_undo ?a_Table_undo_with_all ?i_Table_undo_with_all ?l_Table_undo_with_all ?cc_Table_undo_with_all ?k_Table_undo_with_all ?a__law_due ?l__law_due ?cc__law_due ?k__law_due ?a_least_form ?l_least_form ?cc_least_form ?k_least_form ?a_Table_word ?i_Table_word ?l_Table_word ?cc_Table_word ?k_Table_word ?a__law_called ?l__law_called ?cc__law_called ?k__law_called ?a__law_same ?l__law_same ?cc__law_same ?k__law_same ?a_law ?l_law ?cc_law ?k_law ?a__law_told ?l__law_told ?cc__law_told ?k__law_told ?q__law_called ?v__law_called ?n__law_called ?q_law ?v_law ?n_law ?z_all ?z_any ?z_bool ?z_dict ?z_int ?z_isinstance ?z_len ?z_list ?z_range ?z_sorted ?z_str ?z_tuple ?v_MOST_HANDS ?v_MOST_LETTERS ?v_MOST_PLACES ?nd_tabs
    (case aC_Alphabet => k_is)
    (case pg_Alphabet => k_is)
    (case hd_Alphabet => k_is)
    (case po_Alphabet => k_is)
    (case sa_Alphabet => k_is)
    (case mk_Alphabet => k_is)
    (case kc_Alphabet => k_is)
    (case na_Alphabet_places => k_is)
    (case na_Alphabet_letters => k_is)
    (case aC_Table => k_is)
    (case pg_Table => k_is)
    (case hd_Table => k_is)
    (case po_Table => k_is)
    (case sa_Table => k_is)
    (case mk_Table => k_is)
    (case kc_Table => k_is)
    (case na_Table__alphabet => k_is)
    (case na_Table__rows => k_is)
    (case na_Table__events => k_is)
    (case na_Table__count => k_is)
    (case aC_InvalidHand => k_is)
    (case ex_InvalidHand => k_exc)
    (case kc_InvalidHand => k_is)
    (case sb_InvalidHand => k_is)
    (case ty_InvalidHand => k_is)
    (case ic_InvalidHand => k_is)
    (case sc_InvalidHand => k_is)
    (case aC_NotReady => k_is)
    (case ex_NotReady => k_exc)
    (case kc_NotReady => k_is)
    (case sb_NotReady => k_is)
    (case ty_NotReady => k_is)
    (case ic_NotReady => k_is)
    (case sc_NotReady => k_is)
    (case sc_NotReady_InvalidHand => k_is)
    (case a_fits => k_is)
    (case l_fits => k_is)
    (case cc_fits => k_is)
    (case k_fits => k_is)
    (case a_independent => k_is)
    (case l_independent => k_is)
    (case cc_independent => k_is)
    (case k_independent => k_is)
    (case a_Table___init__ => k_is)
    (case i_Table___init__ => k_is)
    (case l_Table___init__ => k_is)
    (case cc_Table___init__ => k_is)
    (case k_Table___init__ => k_is)
    (case a_Table__check => k_is)
    (case i_Table__check => k_is)
    (case l_Table__check => k_is)
    (case cc_Table__check => k_is)
    (case k_Table__check => k_is)
    (case a_Table__add => k_is)
    (case i_Table__add => k_is)
    (case l_Table__add => k_is)
    (case cc_Table__add => k_is)
    (case k_Table__add => k_is)
    (case a_Table__newest => k_is)
    (case i_Table__newest => k_is)
    (case l_Table__newest => k_is)
    (case cc_Table__newest => k_is)
    (case k_Table__newest => k_is)
    (case a_Table__take_back => k_is)
    (case i_Table__take_back => k_is)
    (case l_Table__take_back => k_is)
    (case cc_Table__take_back => k_is)
    (case k_Table__take_back => k_is)
    (case a_Table_events => k_is)
    (case i_Table_events => k_is)
    (case l_Table_events => k_is)
    (case cc_Table_events => k_is)
    (case k_Table_events => k_is)
    (case a_place_word => k_is)
    (case l_place_word => k_is)
    (case cc_place_word => k_is)
    (case k_place_word => k_is)
    (case a__law_draws => k_is)
    (case l__law_draws => k_is)
    (case cc__law_draws => k_is)
    (case k__law_draws => k_is)
    (case a__law_take => k_is)
    (case l__law_take => k_is)
    (case cc__law_take => k_is)
    (case k__law_take => k_is)
    (case a__law_meet => k_is)
    (case l__law_meet => k_is)
    (case cc__law_meet => k_is)
    (case k__law_meet => k_is)
    (case a__law_take_back => k_is)
    (case l__law_take_back => k_is)
    (case cc__law_take_back => k_is)
    (case k__law_take_back => k_is)
    (case a__law_add => k_is)
    (case l__law_add => k_is)
    (case cc__law_add => k_is)
    (case k__law_add => k_is)
    (case a_Alphabet___init__ => k_is)
    (case i_Alphabet___init__ => k_is)
    (case l_Alphabet___init__ => k_is)
    (case cc_Alphabet___init__ => k_is)
    (case k_Alphabet___init__ => k_is)
    (case a_masks => k_is)
    (case l_masks => k_is)
    (case cc_masks => k_is)
    (case k_masks => k_is)
    (case a_Table__resting => k_is)
    (case i_Table__resting => k_is)
    (case l_Table__resting => k_is)
    (case cc_Table__resting => k_is)
    (case k_Table__resting => k_is)
    (case a_Table_do => k_is)
    (case i_Table_do => k_is)
    (case l_Table_do => k_is)
    (case cc_Table_do => k_is)
    (case k_Table_do => k_is)
    (case a_Table_do_again => k_is)
    (case i_Table_do_again => k_is)
    (case l_Table_do_again => k_is)
    (case cc_Table_do_again => k_is)
    (case k_Table_do_again => k_is)
    (case a_Table_row => k_is)
    (case i_Table_row => k_is)
    (case l_Table_row => k_is)
    (case cc_Table_row => k_is)
    (case k_Table_row => k_is)
    (case a_equivalent => k_is)
    (case l_equivalent => k_is)
    (case cc_equivalent => k_is)
    (case k_equivalent => k_is)
    (case a__law_alphabet => k_is)
    (case l__law_alphabet => k_is)
    (case cc__law_alphabet => k_is)
    (case k__law_alphabet => k_is)
    (case a__law_resting => k_is)
    (case l__law_resting => k_is)
    (case cc__law_resting => k_is)
    (case k__law_resting => k_is)
    (case a_first_letters => k_is)
    (case l_first_letters => k_is)
    (case cc_first_letters => k_is)
    (case k_first_letters => k_is)
    (case a_Table_undo => k_is)
    (case i_Table_undo => k_is)
    (case l_Table_undo => k_is)
    (case cc_Table_undo => k_is)
    (case k_Table_undo => k_is)
    (case a_Table_undo_with_all => k_is)
    (case i_Table_undo_with_all => k_is)
    (case l_Table_undo_with_all => k_is)
    (case cc_Table_undo_with_all => k_is)
    (case k_Table_undo_with_all => k_is)
    (case a__law_due => k_is)
    (case l__law_due => k_is)
    (case cc__law_due => k_is)
    (case k__law_due => k_is)
    (case a_least_form => k_is)
    (case l_least_form => k_is)
    (case cc_least_form => k_is)
    (case k_least_form => k_is)
    (case a_Table_word => k_is)
    (case i_Table_word => k_is)
    (case l_Table_word => k_is)
    (case cc_Table_word => k_is)
    (case k_Table_word => k_is)
    (case a__law_called => k_is)
    (case l__law_called => k_is)
    (case cc__law_called => k_is)
    (case k__law_called => k_is)
    (case a__law_same => k_is)
    (case l__law_same => k_is)
    (case cc__law_same => k_is)
    (case k__law_same => k_is)
    (case a_law => k_is)
    (case l_law => k_is)
    (case cc_law => k_is)
    (case k_law => k_is)
    (case a__law_told => k_is)
    (case l__law_told => k_is)
    (case cc__law_told => k_is)
    (case k__law_told => k_is)
    (case q__law_called => k_is)
    (case v__law_called => exact rfl)
    (case n__law_called => kernel_rfl)
    (case q_law => k_is)
    (case v_law => exact rfl)
    (case n_law => kernel_rfl)
    (case z_all => k_is)
    (case z_any => k_is)
    (case z_bool => k_is)
    (case z_dict => k_is)
    (case z_int => k_is)
    (case z_isinstance => k_is)
    (case z_len => k_is)
    (case z_list => k_is)
    (case z_range => k_is)
    (case z_sorted => k_is)
    (case z_str => k_is)
    (case z_tuple => k_is)
    (case v_MOST_HANDS => k_is)
    (case v_MOST_LETTERS => k_is)
    (case v_MOST_PLACES => k_is)
    (case nd_tabs => decide)
