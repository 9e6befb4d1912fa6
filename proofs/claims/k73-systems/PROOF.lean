import PyProof.Rows.All
import Wide.All
import OpenK.AllK
import Wide.FinOn
import HandS.ForMost
import HandS.ForExc
import HandS.TupAny
import HandS.Flow
import HandS.Deep
import HandS.CallSlots
import HandS.Style
import HandS.More
import HandS.SortInts
import HandS.SortRule
import HandS.IsInst
import HandS.Conv
import KE.OsArith
import KE.BitLaws
import KE.GoesEnum
import HandS.SetFor
import HandS.Strs
import HandS.DictComp
import PySem.Challenge.RW_tracetalk_k73_systems
set_option Elab.async false
set_option linter.all false
set_option maxRecDepth 100000
/-! Z1: own values, own heap, the relation to the abstract heap of HandS. -/
namespace Z
open PySem PySem.Spec L2

/-- a number that range takes; a place that pop takes -/
inductive R62 (j : Int) : Prop
  | mk (h : -(2 ^ 62) ≤ j ∧ j < 2 ^ 62)
inductive R63 (j : Int) : Prop
  | mk (h : -(2 ^ 63) ≤ j ∧ j < 2 ^ 63)
theorem R62.of {j : Int} : R62 j → -(2 ^ 62) ≤ j ∧ j < 2 ^ 62
  | .mk h => h
theorem R63.of {j : Int} : R63 j → -(2 ^ 63) ≤ j ∧ j < 2 ^ 63
  | .mk h => h
theorem r62 {n : Nat} (h : n ≤ 1000000) : R62 (n : Int) := by
  refine .mk ?_
  simp only [Int.reducePow]
  omega
theorem r62i {i : Int} (h : -1000000 ≤ i) (h2 : i ≤ 1000000) : R62 i := by
  refine .mk ?_
  simp only [Int.reducePow]
  omega
theorem r63 {n : Nat} (h : n ≤ 1000000) : R63 (n : Int) := by
  refine .mk ?_
  simp only [Int.reducePow]
  omega
/-- own values: frozen data as trees; ref: an object of the own heap -/
inductive D where
  | non | bl (b : Bool) | int (i : Int) | str (s : Str)
  | tup (ds : List D) | lst (ds : List D)
  | dK (kvs : List (Key × D)) | dT (kvs : List (List Key × D))
  | obj (c : Nat) (fs : List D)
  /-- the script: a list that is read alone -/
  | ro (ns : List Int)
  | ref (n : Nat)
/-- own mutable objects -/
inductive O where
  | lst (ds : List D) | dK (kvs : List (Key × D)) | dT (kvs : List (List Key × D))
  | ins (c : Nat) (fs : List D) | dead
  /-- a dict that is walked: read, not written -/
  | lkK (kvs : List (Key × D)) | lkT (kvs : List (List Key × D))
/-- the program's classes: where they stand, their attributes' names in order -/
structure Cn where
  ad : Nat → Addr
  nm : Nat → List Str
  ro : Addr → List Int → Prop
/-- an expression's outcome: a value, or a new object that nobody else holds -/
inductive R where
  | v (d : D) | n (o : O)
abbrev Own := List O
abbrev Sl := List (Option D)
inductive Res (α : Type) where
  | ok (a : α) (h : Own) | exc (c : Nat) (h : Own) | stuck
namespace Res
def bind {α β : Type} (x : Res α) (f : α → Own → Res β) : Res β := match x with
  | ok a h => f a h
  | exc c h => exc c h
  | stuck => stuck
@[simp] theorem bind_ok {α β : Type} (a : α) (h : Own) (f : α → Own → Res β) : (Res.ok a h).bind f = f a h := rfl
@[simp] theorem bind_exc {α β : Type} (c : Nat) (h : Own) (f : α → Own → Res β) : (Res.exc c h : Res α).bind f = .exc c h := rfl
@[simp] theorem bind_stuck {α β : Type} (f : α → Own → Res β) : (Res.stuck : Res α).bind f = .stuck := rfl
end Res

section
variable (ca : Cn) (μ : List Addr) (F : Hp)
mutual
inductive VR : V → D → Prop where
  | non : VR .non .non
  | bl (b : Bool) : VR (.bl b) (.bl b)
  | int (i : Int) : VR (.int i) (.int i)
  | str (s : Str) : VR (.str s) (.str s)
  | tup {a : Addr} {vs : List V} {ds : List D} (e : F a = some (.tup vs)) (r : VRs vs ds) : VR (.ref a) (.tup ds)
  | lst {a : Addr} {vs : List V} {ds : List D} (e : F a = some (.lst vs)) (r : VRs vs ds) : VR (.ref a) (.lst ds)
  | dK {a : Addr} {kvs : List (Key × V)} {kds : List (Key × D)} (e : F a = some (.dK kvs)) (k : kvs.map (·.1) = kds.map (·.1)) (r : VRs (kvs.map (·.2)) (kds.map (·.2))) : VR (.ref a) (.dK kds)
  | dT {a : Addr} {kvs : List (List Key × V)} {kds : List (List Key × D)} (e : F a = some (.dT kvs)) (k : kvs.map (·.1) = kds.map (·.1)) (r : VRs (kvs.map (·.2)) (kds.map (·.2))) : VR (.ref a) (.dT kds)
  | obj {a dx : Addr} {c : Nat} {fs : List (Str × V)} {fds : List D} (e : F a = some (.ins (ca.ad c) dx fs)) (k : fs.map (·.1) = (ca.nm c).take fds.length) (r : VRs (fs.map (·.2)) fds) : VR (.ref a) (.obj c fds)
  | ro {a : Addr} {ns : List Int} (e : (∃ o, F a = some (.frz o (.lst (ns.map .int)))) ∨ ca.ro a ns) : VR (.ref a) (.ro ns)
  | ref {a : Addr} {n : Nat} (e : μ[n]? = some a) : VR (.ref a) (.ref n)
inductive VRs : List V → List D → Prop where
  | nil : VRs [] []
  | cons {v : V} {d : D} {vs : List V} {ds : List D} (h : VR v d) (t : VRs vs ds) : VRs (v :: vs) (d :: ds)
end
end

section
variable {ca : Cn} {μ μ' : List Addr} {F F' : Hp}
mutual
theorem VR.mono (hm : ∀ (n : Nat) (a : Addr), μ[n]? = some a → μ'[n]? = some a) (hF : Same F F') : ∀ {v : V} {d : D}, VR ca μ F v d → VR ca μ' F' v d
  | _, _, .non => .non
  | _, _, .bl b => .bl b
  | _, _, .int i => .int i
  | _, _, .str s => .str s
  | _, _, .tup e r => .tup (hF _ _ e) (VRs.mono hm hF r)
  | _, _, .lst e r => .lst (hF _ _ e) (VRs.mono hm hF r)
  | _, _, .dK e k r => .dK (hF _ _ e) k (VRs.mono hm hF r)
  | _, _, .dT e k r => .dT (hF _ _ e) k (VRs.mono hm hF r)
  | _, _, .obj e k r => .obj (hF _ _ e) k (VRs.mono hm hF r)
  | _, _, .ref e => .ref (hm _ _ e)
  | _, _, .ro e => .ro (e.imp (fun ⟨o, z⟩ => ⟨o, hF _ _ z⟩) fun z => z)
theorem VRs.mono (hm : ∀ (n : Nat) (a : Addr), μ[n]? = some a → μ'[n]? = some a) (hF : Same F F') : ∀ {vs : List V} {ds : List D}, VRs ca μ F vs ds → VRs ca μ' F' vs ds
  | _, _, .nil => .nil
  | _, _, .cons h t => .cons (VR.mono hm hF h) (VRs.mono hm hF t)
end
theorem VRs.length : ∀ {vs : List V} {ds : List D}, VRs ca μ F vs ds → vs.length = ds.length
  | _, _, .nil => rfl
  | _, _, .cons _ t => congrArg (· + 1) (VRs.length t)
theorem VRs.append : ∀ {vs ws : List V} {ds es : List D}, VRs ca μ F vs ds → VRs ca μ F ws es → VRs ca μ F (vs ++ ws) (ds ++ es)
  | _, _, _, _, .nil, s => s
  | _, _, _, _, .cons h t, s => .cons h (VRs.append t s)
theorem VRs.get : ∀ {vs : List V} {ds : List D} {i : Nat} {d : D}, VRs ca μ F vs ds → ds[i]? = some d → ∃ v, vs[i]? = some v ∧ VR ca μ F v d
  | _, _, _, _, .nil, e => by simp at e
  | _, _, 0, _, .cons h _, e => by simp at e; subst e; exact ⟨_, rfl, h⟩
  | _, _, i + 1, d, .cons _ t, e => by
    obtain ⟨v, h1, h2⟩ := VRs.get (i := i) (d := d) t (by simpa using e)
    exact ⟨v, by simpa using h1, h2⟩
theorem VRs.getV : ∀ {vs : List V} {ds : List D} {i : Nat} {v : V}, VRs ca μ F vs ds → vs[i]? = some v → ∃ d, ds[i]? = some d ∧ VR ca μ F v d
  | _, _, _, _, .nil, e => by simp at e
  | _, _, 0, _, .cons h _, e => by simp at e; subst e; exact ⟨_, rfl, h⟩
  | _, _, i + 1, v, .cons _ t, e => by
    obtain ⟨d, h1, h2⟩ := VRs.getV (i := i) (v := v) t (by simpa using e)
    exact ⟨d, by simpa using h1, h2⟩
theorem VRs.set : ∀ {vs : List V} {ds : List D} (i : Nat) {v : V} {d : D}, VRs ca μ F vs ds → VR ca μ F v d → VRs ca μ F (vs.set i v) (ds.set i d)
  | _, _, _, _, _, .nil, _ => .nil
  | _, _, 0, _, _, .cons _ t, r => .cons r t
  | _, _, i + 1, _, _, .cons h t, r => .cons h (VRs.set i t r)
theorem VRs.take : ∀ {vs : List V} {ds : List D} (n : Nat), VRs ca μ F vs ds → VRs ca μ F (vs.take n) (ds.take n)
  | _, _, 0, _ => .nil
  | _, _, _ + 1, .nil => .nil
  | _, _, n + 1, .cons h t => .cons h (VRs.take n t)
theorem VRs.drop : ∀ {vs : List V} {ds : List D} (n : Nat), VRs ca μ F vs ds → VRs ca μ F (vs.drop n) (ds.drop n)
  | _, _, 0, r => r
  | _, _, _ + 1, .nil => .nil
  | _, _, n + 1, .cons _ t => VRs.drop n t
theorem VRs.eraseIdx : ∀ {vs : List V} {ds : List D} (i : Nat), VRs ca μ F vs ds → VRs ca μ F (vs.eraseIdx i) (ds.eraseIdx i)
  | _, _, _, .nil => .nil
  | _, _, 0, .cons _ t => t
  | _, _, i + 1, .cons h t => .cons h (VRs.eraseIdx i t)
theorem VRs.reverse {vs : List V} {ds : List D} (h : VRs ca μ F vs ds) : VRs ca μ F vs.reverse ds.reverse := by
  induction vs generalizing ds with
  | nil => cases h; exact .nil
  | cons v vs ih =>
    cases h with
    | cons h t =>
      rw [List.reverse_cons, List.reverse_cons]
      exact (ih t).append (.cons h .nil)
theorem VRs.ints : ∀ {ns : List Int} {vs : List V}, VRs ca μ F vs (ns.map D.int) → vs = ns.map V.int
  | [], _, .nil => rfl
  | n :: ns, _, .cons h t => by
    cases h
    rw [VRs.ints (ns := ns) t]
    rfl
theorem VRs.of_ints : ∀ (ns : List Int), VRs ca μ F (ns.map V.int) (ns.map D.int)
  | [] => .nil
  | n :: ns => .cons (.int n) (VRs.of_ints ns)
theorem VRs.bls : ∀ {ns : List Bool} {vs : List V}, VRs ca μ F vs (ns.map D.bl) → vs = ns.map V.bl
  | [], _, .nil => rfl
  | n :: ns, _, .cons h t => by
    cases h
    rw [VRs.bls (ns := ns) t]
    rfl
end

/-- how the own object stands at its address -/
def OR (ca : Cn) (μ : List Addr) (F H : Hp) (a : Addr) : O → Prop
  | .lst ds => ∃ vs, H a = some (.lst vs) ∧ VRs ca μ F vs ds
  | .dK kds => ∃ kvs : List (Key × V), H a = some (.dK kvs) ∧ kvs.map (·.1) = kds.map (·.1) ∧ VRs ca μ F (kvs.map (·.2)) (kds.map (·.2))
  | .dT kds => ∃ kvs : List (List Key × V), H a = some (.dT kvs) ∧ kvs.map (·.1) = kds.map (·.1) ∧ VRs ca μ F (kvs.map (·.2)) (kds.map (·.2))
  | .ins c fds => ∃ (dx : Addr) (fs : List (Str × V)), H a = some (.ins (ca.ad c) dx fs) ∧ fs.map (·.1) = (ca.nm c).take fds.length ∧ VRs ca μ F (fs.map (·.2)) fds
  | .dead => True
  | .lkK kds => ∃ (od : Obj) (kvs : List (Key × V)), H a = some (.frz od (.dK kvs)) ∧ kvs.map (·.1) = kds.map (·.1) ∧ VRs ca μ F (kvs.map (·.2)) (kds.map (·.2))
  | .lkT kds => ∃ (od : Obj) (kvs : List (List Key × V)), H a = some (.frz od (.dT kvs)) ∧ kvs.map (·.1) = kds.map (·.1) ∧ VRs ca μ F (kvs.map (·.2)) (kds.map (·.2))
theorem OR.mono {ca : Cn} {μ μ' : List Addr} {F F' H H' : Hp} {a : Addr} (hm : ∀ (n : Nat) (a : Addr), μ[n]? = some a → μ'[n]? = some a) (hF : Same F F') (hH : ∀ o, H a = some o → H' a = some o) : ∀ {o : O}, OR ca μ F H a o → OR ca μ' F' H' a o
  | .lst _, ⟨vs, e, r⟩ => ⟨vs, hH _ e, r.mono hm hF⟩
  | .dK _, ⟨vs, e, k, r⟩ => ⟨vs, hH _ e, k, r.mono hm hF⟩
  | .dT _, ⟨vs, e, k, r⟩ => ⟨vs, hH _ e, k, r.mono hm hF⟩
  | .ins _ _, ⟨dx, vs, e, k, r⟩ => ⟨dx, vs, hH _ e, k, r.mono hm hF⟩
  | .dead, _ => True.intro
  | .lkK _, ⟨od, vs, e, k, r⟩ => ⟨od, vs, hH _ e, k, r.mono hm hF⟩
  | .lkT _, ⟨od, vs, e, k, r⟩ => ⟨od, vs, hH _ e, k, r.mono hm hF⟩

/-! no refs within -/
mutual
def nrf : D → Bool
  | .tup ds => nrfs ds
  | .lst ds => nrfs ds
  | .dK kvs => nrfK kvs
  | .dT kvs => nrfT kvs
  | .obj _ fs => nrfs fs
  | .ref _ => false
  | .non => true
  | .bl _ => true
  | .int _ => true
  | .str _ => true
  | .ro _ => true
def nrfs : List D → Bool
  | [] => true
  | d :: ds => nrf d && nrfs ds
def nrfK : List (Key × D) → Bool
  | [] => true
  | (_, d) :: ds => nrf d && nrfK ds
def nrfT : List (List Key × D) → Bool
  | [] => true
  | (_, d) :: ds => nrf d && nrfT ds
end
theorem nrfs_all : ∀ ds : List D, nrfs ds = ds.all nrf
  | [] => rfl
  | d :: ds => by rw [nrfs, nrfs_all ds]; rfl
theorem nrfK_all : ∀ ds : List (Key × D), nrfK ds = (ds.map (·.2)).all nrf
  | [] => rfl
  | (_, d) :: ds => by rw [nrfK, nrfK_all ds]; rfl
theorem nrfT_all : ∀ ds : List (List Key × D), nrfT ds = (ds.map (·.2)).all nrf
  | [] => rfl
  | (_, d) :: ds => by rw [nrfT, nrfT_all ds]; rfl
def nrfO : O → Bool
  | .lst ds => nrfs ds
  | .dK kvs => nrfK kvs
  | .dT kvs => nrfT kvs
  | .ins _ fs => nrfs fs
  | .dead => true
  | .lkK kvs => nrfK kvs
  | .lkT kvs => nrfT kvs
/-- what nobody changes -/
def stb : O → Bool
  | .dead => true
  | .lkK _ => true
  | .lkT _ => true
  | _ => false
section
variable {ca : Cn} {μ μ' : List Addr} {F : Hp}
mutual
theorem VR.nrf : ∀ {v : V} {d : D}, VR ca μ F v d → nrf d = true → VR ca μ' F v d
  | _, _, .non, _ => .non
  | _, _, .bl b, _ => .bl b
  | _, _, .int i, _ => .int i
  | _, _, .str s, _ => .str s
  | _, _, .tup e r, q => .tup e (VRs.nrf r (by rw [Z.nrf, nrfs_all] at q; exact q))
  | _, _, .lst e r, q => .lst e (VRs.nrf r (by rw [Z.nrf, nrfs_all] at q; exact q))
  | _, _, .dK e k r, q => .dK e k (VRs.nrf r (by rw [Z.nrf, nrfK_all] at q; exact q))
  | _, _, .dT e k r, q => .dT e k (VRs.nrf r (by rw [Z.nrf, nrfT_all] at q; exact q))
  | _, _, .obj e k r, q => .obj e k (VRs.nrf r (by rw [Z.nrf, nrfs_all] at q; exact q))
  | _, _, .ref e, q => by rw [Z.nrf] at q; cases q
  | _, _, .ro e, _ => .ro e
theorem VRs.nrf : ∀ {vs : List V} {ds : List D}, VRs ca μ F vs ds → ds.all Z.nrf = true → VRs ca μ' F vs ds
  | _, _, .nil, _ => .nil
  | _, _, .cons h t, q => .cons (VR.nrf h (by rw [List.all_cons, Bool.and_eq_true] at q; exact q.1)) (VRs.nrf t (by rw [List.all_cons, Bool.and_eq_true] at q; exact q.2))
end
theorem OR.nrf {H : Hp} {a : Addr} : ∀ {o : O}, OR ca μ F H a o → nrfO o = true → OR ca μ' F H a o
  | .lst _, ⟨vs, e, r⟩, q => ⟨vs, e, r.nrf (by rw [nrfO, nrfs_all] at q; exact q)⟩
  | .dK _, ⟨vs, e, k, r⟩, q => ⟨vs, e, k, r.nrf (by rw [nrfO, nrfK_all] at q; exact q)⟩
  | .dT _, ⟨vs, e, k, r⟩, q => ⟨vs, e, k, r.nrf (by rw [nrfO, nrfT_all] at q; exact q)⟩
  | .ins _ _, ⟨dx, vs, e, k, r⟩, q => ⟨dx, vs, e, k, r.nrf (by rw [nrfO, nrfs_all] at q; exact q)⟩
  | .dead, _, _ => True.intro
  | .lkK _, ⟨od, vs, e, k, r⟩, q => ⟨od, vs, e, k, r.nrf (by rw [nrfO, nrfK_all] at q; exact q)⟩
  | .lkT _, ⟨od, vs, e, k, r⟩, q => ⟨od, vs, e, k, r.nrf (by rw [nrfO, nrfT_all] at q; exact q)⟩
-- what was related ahead keeps to the old addresses
variable {m : List Addr} {F0 : Hp}
mutual
theorem VR.back (hm : μ' = μ ++ m) : ∀ {v w : V} {d : D}, VR ca μ F0 w d → VR ca μ' F v d → VR ca μ F v d
  | _, _, _, .non, .non => .non
  | _, _, _, .bl b, .bl _ => .bl b
  | _, _, _, .int i, .int _ => .int i
  | _, _, _, .str s, .str _ => .str s
  | _, _, _, .tup _ r0, .tup e r => .tup e (VRs.back hm r0 r)
  | _, _, _, .lst _ r0, .lst e r => .lst e (VRs.back hm r0 r)
  | _, _, _, .dK _ _ r0, .dK e k r => .dK e k (VRs.back hm r0 r)
  | _, _, _, .dT _ _ r0, .dT e k r => .dT e k (VRs.back hm r0 r)
  | _, _, _, .obj _ _ r0, .obj e k r => .obj e k (VRs.back hm r0 r)
  | _, _, _, .ref e0, .ref e => .ref (by
      subst hm
      rw [List.getElem?_append_left (List.getElem?_eq_some_iff.mp e0).1] at e
      exact e)
  | _, _, _, .ro _, .ro e => .ro e
theorem VRs.back (hm : μ' = μ ++ m) : ∀ {vs ws : List V} {ds : List D}, VRs ca μ F0 ws ds → VRs ca μ' F vs ds → VRs ca μ F vs ds
  | _, _, _, .nil, .nil => .nil
  | _, _, _, .cons h0 t0, .cons h t => .cons (VR.back hm h0 h) (VRs.back hm t0 t)
end
theorem OR.back {H0 H : Hp} {a b : Addr} (hm : μ' = μ ++ m) : ∀ {o : O}, OR ca μ F0 H0 b o → OR ca μ' F H a o → OR ca μ F H a o
  | .lst _, ⟨_, _, r0⟩, ⟨vs, e, r⟩ => ⟨vs, e, r0.back hm r⟩
  | .dK _, ⟨_, _, _, r0⟩, ⟨vs, e, k, r⟩ => ⟨vs, e, k, r0.back hm r⟩
  | .dT _, ⟨_, _, _, r0⟩, ⟨vs, e, k, r⟩ => ⟨vs, e, k, r0.back hm r⟩
  | .ins _ _, ⟨_, _, _, _, r0⟩, ⟨dx, vs, e, k, r⟩ => ⟨dx, vs, e, k, r0.back hm r⟩
  | .dead, _, _ => True.intro
  | .lkK _, ⟨_, _, _, _, r0⟩, ⟨od, vs, e, k, r⟩ => ⟨od, vs, e, k, r0.back hm r⟩
  | .lkT _, ⟨_, _, _, _, r0⟩, ⟨od, vs, e, k, r⟩ => ⟨od, vs, e, k, r0.back hm r⟩
end

/-- the own heap h stands within H: own objects at μ, frozen data in F -/
structure RelH (ca : Cn) (μ : List Addr) (F : Hp) (h : Own) (H : Hp) : Prop where
  len : μ.length = h.length
  nd : μ.Nodup
  fz : Same F H
  sep : ∀ (n : Nat) (a : Addr) (o : O), μ[n]? = some a → h[n]? = some o → o ≠ .dead → F a = none
  dom : ∀ a ∈ μ, H a ≠ none
  ob : ∀ (n : Nat) (a : Addr) (o : O), μ[n]? = some a → h[n]? = some o → OR ca μ F H a o
/-- what a step of a frame with the base b may do to the rest -/
structure Ext (b : Nat) (μ : List Addr) (F H : Hp) (h : Own) (μ' : List Addr) (F' H' : Hp) (h' : Own) : Prop where
  pre : ∃ m, μ' = μ ++ m ∧ ∀ a ∈ m, H a = none
  fz : Same F F'
  frame : ∀ a o, H a = some o → a ∉ μ → H' a = some o
  dom : ∀ a, H a ≠ none → H' a ≠ none
  newF : ∀ a, F' a ≠ none → F a ≠ none ∨ a ∈ μ ∨ H a = none ∨ ∃ xs, H a = some (.tup xs)
  keep : ∀ (k : Nat) (o : O), k < b → h'[k]? = some o → h[k]? = some o ∨ nrfO o = true
  st : ∀ (n : Nat) (a : Addr) (o : O), μ[n]? = some a → h[n]? = some o → stb o = true → h'[n]? = some o ∧ ∀ u, H a = some u → H' a = some u
/-- a frame: the own heap's size at its start, its slots -/
structure Fm where
  b : Nat
  s : Sl
def SR (ca : Cn) (μ : List Addr) (F : Hp) (τ : Sl) (σ : L2.St) : Prop := τ.length = σ.length ∧ ∀ (i : Nat) (d : D), τ[i]? = some (some d) → ∃ v, σ[i]? = some (some v) ∧ VR ca μ F v d
/-- an outcome; H0: the heap ahead of the expression -/
def RR (ca : Cn) (μ : List Addr) (F H0 H : Hp) (v : V) : R → Prop
  | .v d => VR ca μ F v d
  | .n o => ∃ a, v = .ref a ∧ H0 a = none ∧ H a ≠ none ∧ a ∉ μ ∧ F a = none ∧ OR ca μ F H a o

section
variable {b : Nat} {ca : Cn} {μ μ1 μ2 : List Addr} {F F1 F2 H H1 H2 : Hp} {h h1 h2 : Own}
theorem Ext.refl : Ext b μ F H h μ F H h := ⟨⟨[], by simp, by simp⟩, Same.refl _, fun _ _ e _ => e, fun _ e => e, fun _ e => .inl e, fun _ _ _ e => .inl e, fun _ _ _ _ e _ => ⟨e, fun _ z => z⟩⟩
theorem Ext.fresh (a : Ext b μ F H h μ1 F1 H1 h1) {x : Addr} (q : H1 x = none) : H x = none := by
  cases e : H x with
  | none => rfl
  | some o => exact absurd q (a.dom x (by rw [e]; simp))
theorem Ext.trans (a : Ext b μ F H h μ1 F1 H1 h1) (c : Ext b μ1 F1 H1 h1 μ2 F2 H2 h2) : Ext b μ F H h μ2 F2 H2 h2 := by
  obtain ⟨m1, e1, n1⟩ := a.pre
  obtain ⟨m2, e2, n2⟩ := c.pre
  have back : ∀ x, H1 x = none → H x = none := fun x q => a.fresh q
  refine ⟨⟨m1 ++ m2, by rw [e2, e1, List.append_assoc], fun x hx => ?_⟩, a.fz.trans c.fz, fun x o e hx => ?_, fun x e => c.dom x (a.dom x e), fun x e => ?_, fun k o hk e => ?_, fun n x o e1' e2' e3' => ?_⟩
  · rcases List.mem_append.mp hx with z | z
    · exact n1 x z
    · exact back x (n2 x z)
  · refine c.frame x o (a.frame x o e hx) fun z => ?_
    rw [e1] at z
    rcases List.mem_append.mp z with z | z
    · exact hx z
    · rw [n1 x z] at e; cases e
  · rcases c.newF x e with z | z | z | ⟨xs, z⟩
    · exact a.newF x z
    · rw [e1] at z
      rcases List.mem_append.mp z with z | z
      · exact .inr (.inl z)
      · exact .inr (.inr (.inl (n1 x z)))
    · exact .inr (.inr (.inl (back x z)))
    · cases q : H x with
      | none => exact .inr (.inr (.inl rfl))
      | some u =>
        by_cases hm : x ∈ μ
        · exact .inr (.inl hm)
        · have := a.frame x u q hm
          rw [this] at z
          cases z
          exact .inr (.inr (.inr ⟨xs, rfl⟩))
  · rcases c.keep k o hk e with z | z
    · exact a.keep k o hk z
    · exact .inr z
  · obtain ⟨w1, w2⟩ := a.st n x o e1' e2' e3'
    have e1'' : μ1[n]? = some x := by
      rw [e1, List.getElem?_append_left (List.getElem?_eq_some_iff.mp e1').1]
      exact e1'
    obtain ⟨w3, w4⟩ := c.st n x o e1'' w1 e3'
    exact ⟨w3, fun u z => w4 u (w2 u z)⟩
theorem Ext.ix (e : Ext b μ F H h μ1 F1 H1 h1) : ∀ (n : Nat) (a : Addr), μ[n]? = some a → μ1[n]? = some a := by
  intro n a q
  obtain ⟨m, e, _⟩ := e.pre
  subst e
  rw [List.getElem?_append_left (List.getElem?_eq_some_iff.mp q).1]
  exact q
theorem Ext.vr (e : Ext b μ F H h μ1 F1 H1 h1) {v : V} {d : D} (r : VR ca μ F v d) : VR ca μ1 F1 v d := r.mono e.ix e.fz
theorem Ext.vrs (e : Ext b μ F H h μ1 F1 H1 h1) {v : List V} {d : List D} (r : VRs ca μ F v d) : VRs ca μ1 F1 v d := r.mono e.ix e.fz
theorem Ext.sr (e : Ext b μ F H h μ1 F1 H1 h1) {τ : Sl} {σ : L2.St} (s : SR ca μ F τ σ) : SR ca μ1 F1 τ σ := ⟨s.1, fun i d q => let ⟨v, a, b⟩ := s.2 i d q; ⟨v, a, e.vr b⟩⟩
theorem Ext.len (e : Ext b μ F H h μ1 F1 H1 h1) (r : RelH ca μ F h H) (r1 : RelH ca μ1 F1 h1 H1) : h.length ≤ h1.length := by
  obtain ⟨m, e, _⟩ := e.pre
  rw [← r.len, ← r1.len, e, List.length_append]
  omega
theorem RR.back (e : Ext b μ F H h μ1 F1 H1 h1) {μ' : List Addr} {F' H' : Hp} {v : V} : ∀ {r : R}, RR ca μ' F' H1 H' v r → RR ca μ' F' H H' v r
  | .v _, r => r
  | .n _, ⟨a, e1, e2, e3⟩ => ⟨a, e1, e.fresh e2, e3⟩
theorem SR.set {τ : Sl} {σ : L2.St} (s : SR ca μ F τ σ) (i : Nat) {v : V} {d : D} (r : VR ca μ F v d) : SR ca μ F (τ.set i (some d)) (σ.set i (some v)) := by
  refine ⟨by simp [s.1], fun j d' q => ?_⟩
  by_cases hj : i = j
  · subst hj
    have hl : i < τ.length := by
      have := (List.getElem?_eq_some_iff.mp q).1
      simpa using this
    rw [List.getElem?_set_self hl] at q
    cases q
    exact ⟨v, List.getElem?_set_self (by rw [← s.1]; exact hl), r⟩
  · rw [List.getElem?_set_ne hj] at q
    rw [List.getElem?_set_ne hj]
    exact s.2 j d' q
theorem SR.clr {τ : Sl} {σ : L2.St} (s : SR ca μ F τ σ) (i : Nat) : SR ca μ F (τ.set i none) σ := by
  refine ⟨by simp [s.1], fun j d' q => ?_⟩
  by_cases hj : i = j
  · subst hj
    have hl : i < τ.length := by
      have := (List.getElem?_eq_some_iff.mp q).1
      simpa using this
    rw [List.getElem?_set_self hl] at q
    cases q
  · rw [List.getElem?_set_ne hj] at q
    exact s.2 j d' q
/-- a new object is taken into the own heap -/
theorem RelH.alloc (r : RelH ca μ F h H) {a : Addr} {o : O} (h1 : H a ≠ none) (h2 : a ∉ μ) (h3 : F a = none) (ho : OR ca μ F H a o) : RelH ca (μ ++ [a]) F (h ++ [o]) H := by
  have ix : ∀ (n : Nat) (x : Addr), μ[n]? = some x → (μ ++ [a])[n]? = some x := fun n x q => by
    rw [List.getElem?_append_left (List.getElem?_eq_some_iff.mp q).1]; exact q
  refine ⟨by simp [r.len], ?_, r.fz, fun n x o' e1 e2 e3 => ?_, fun x hx => ?_, fun n x o' e1 e2 => ?_⟩
  · rw [List.nodup_append]
    exact ⟨r.nd, by simp, fun x hx y hy => by simp at hy; subst hy; rintro rfl; exact h2 hx⟩
  · by_cases hn : n < μ.length
    · rw [List.getElem?_append_left hn] at e1
      rw [List.getElem?_append_left (by rw [← r.len]; exact hn)] at e2
      exact r.sep n x o' e1 e2 e3
    · have hl := (List.getElem?_eq_some_iff.mp e1).1
      simp at hl
      have e : n = μ.length := by omega
      subst e
      simp at e1
      subst e1
      exact h3
  · rcases List.mem_append.mp hx with z | z
    · exact r.dom x z
    · simp at z; subst z; exact h1
  · by_cases hn : n < μ.length
    · rw [List.getElem?_append_left hn] at e1
      rw [List.getElem?_append_left (by rw [← r.len]; exact hn)] at e2
      exact (r.ob n x o' e1 e2).mono ix (Same.refl _) fun _ q => q
    · have hl := (List.getElem?_eq_some_iff.mp e1).1
      simp at hl
      have e : n = μ.length := by omega
      subst e
      simp at e1
      subst e1
      rw [r.len] at e2
      simp at e2
      subst e2
      exact ho.mono ix (Same.refl _) fun _ q => q
theorem Ext.alloc (e : Ext b μ F H h μ1 F1 H1 h1) {a : Addr} {o : O} (ha : H a = none) (hb : b ≤ h1.length) : Ext b μ F H h (μ1 ++ [a]) F1 H1 (h1 ++ [o]) := by
  obtain ⟨m, e1, e2⟩ := e.pre
  refine ⟨⟨m ++ [a], by rw [e1, List.append_assoc], fun x hx => ?_⟩, e.fz, e.frame, e.dom, e.newF, fun k o' hk q => ?_, fun n x o' f1 f2 f3 => ?_⟩
  · rcases List.mem_append.mp hx with z | z
    · exact e2 x z
    · simp at z; subst z; exact ha
  · rw [List.getElem?_append_left (by omega)] at q
    exact e.keep k o' hk q
  · obtain ⟨w1, w2⟩ := e.st n x o' f1 f2 f3
    rw [List.getElem?_append_left (List.getElem?_eq_some_iff.mp w1).1]
    exact ⟨w1, w2⟩
/-- a new object is frozen -/
theorem RelH.freeze (r : RelH ca μ F h H) {a : Addr} {o : HO} (h1 : H a = some o) (h2 : a ∉ μ) (h3 : F a = none) : RelH ca μ (upd F a o) h H := by
  have hs : Same F (upd F a o) := fun x u e => by rw [upd_ne (ne_of_none e h3)]; exact e
  refine ⟨r.len, r.nd, fun x u e => ?_, fun n x o' e1 e2 e3 => ?_, r.dom, fun n x o' e1 e2 => (r.ob n x o' e1 e2).mono (fun _ _ q => q) hs fun _ q => q⟩
  · by_cases hx : x = a
    · subst hx; rw [upd_same] at e; cases e; exact h1
    · rw [upd_ne hx] at e; exact r.fz x u e
  · rw [upd_ne (show x ≠ a by rintro rfl; exact h2 (List.mem_of_getElem? e1))]; exact r.sep n x o' e1 e2 e3
theorem Ext.freeze (e : Ext b μ F H h μ1 F1 H1 h1) {a : Addr} {o : HO} (ha : H a = none) (h3 : F1 a = none) : Ext b μ F H h μ1 (upd F1 a o) H1 h1 := by
  refine ⟨e.pre, fun x u q => ?_, e.frame, e.dom, fun x q => ?_, e.keep, e.st⟩
  · have := e.fz x u q
    rw [upd_ne (ne_of_none this h3)]; exact this
  · by_cases hx : x = a
    · subst hx; exact .inr (.inr (.inl ha))
    · rw [upd_ne hx] at q; exact e.newF x q
/-- a new tracked object in H -/
theorem RelH.upd (r : RelH ca μ F h H) {a : Addr} {o : HO} (ha : H a = none) : RelH ca μ F h (upd H a o) := by
  have hs : ∀ x u, H x = some u → L2.upd H a o x = some u := fun x u e => by rw [upd_ne (ne_of_none e ha)]; exact e
  refine ⟨r.len, r.nd, fun x u e => hs x u (r.fz x u e), r.sep, fun x hx => ?_, fun n x o' e1 e2 => (r.ob n x o' e1 e2).mono (fun _ _ q => q) (Same.refl _) fun _ q => hs _ _ q⟩
  have := r.dom x hx
  cases q : H x with
  | none => exact absurd q this
  | some u => rw [hs x u q]; simp
theorem Ext.upd (e : Ext b μ F H h μ1 F1 H1 h1) {a : Addr} {o : HO} (ha : H1 a = none) : Ext b μ F H h μ1 F1 (upd H1 a o) h1 := by
  have hs : ∀ x u, H1 x = some u → L2.upd H1 a o x = some u := fun x u e => by rw [upd_ne (ne_of_none e ha)]; exact e
  refine ⟨e.pre, e.fz, fun x u q hx => hs x u (e.frame x u q hx), fun x q => ?_, e.newF, e.keep, fun n x o' f1 f2 f3 => ⟨(e.st n x o' f1 f2 f3).1, fun u z => hs x u ((e.st n x o' f1 f2 f3).2 u z)⟩⟩
  have := e.dom x q
  cases q : H1 x with
  | none => exact absurd q this
  | some u => rw [hs x u q]; simp
/-- an own object changes -/
theorem RelH.put (r : RelH ca μ F h H) {n : Nat} {a : Addr} {o o0 : O} {u : HO} (e : μ[n]? = some a) (e0 : h[n]? = some o0) (n0 : o0 ≠ .dead) (ho : ∀ H', H' a = some u → OR ca μ F H' a o) : RelH ca μ F (h.set n o) (L2.upd H a u) := by
  have ha : a ∈ μ := List.mem_of_getElem? e
  have hF := r.sep n a o0 e e0 n0
  refine ⟨by simp [r.len], r.nd, fun x w q => ?_, fun k x o' e1 e2 e3 => ?_, fun x hx => ?_, fun k x o' e1 e2 => ?_⟩
  · rw [upd_ne (ne_of_none q hF)]; exact r.fz x w q
  · by_cases hk : n = k
    · subst hk
      rw [e] at e1; cases e1
      exact hF
    · rw [List.getElem?_set_ne hk] at e2
      exact r.sep k x o' e1 e2 e3
  · by_cases hx' : x = a
    · subst hx'; rw [upd_same]; simp
    · rw [upd_ne hx']; exact r.dom x hx
  · by_cases hk : n = k
    · subst hk
      rw [e] at e1; cases e1
      have hl := (List.getElem?_eq_some_iff.mp e2).1
      rw [List.length_set] at hl
      rw [List.getElem?_set_self hl] at e2
      cases e2
      exact ho _ upd_same
    · rw [List.getElem?_set_ne hk] at e2
      have hne : x ≠ a := by
        rintro rfl
        obtain ⟨l1, q1⟩ := List.getElem?_eq_some_iff.mp e
        obtain ⟨l2, q2⟩ := List.getElem?_eq_some_iff.mp e1
        exact hk ((List.getElem_inj r.nd).mp (q1.trans q2.symm))
      exact (r.ob k x o' e1 e2).mono (fun _ _ q => q) (Same.refl _) fun w q => by rw [upd_ne hne]; exact q
theorem Ext.put (x : Ext b μ F H h μ1 F1 H1 h1) {n : Nat} {a : Addr} {o o0 : O} {u : HO} (r1 : RelH ca μ1 F1 h1 H1) (e : μ1[n]? = some a) (e0 : h1[n]? = some o0) (n0 : stb o0 = false) (hk : b ≤ n ∨ nrfO o = true) : Ext b μ F H h μ1 F1 (L2.upd H1 a u) (h1.set n o) := by
  have ha : a ∈ μ1 := List.mem_of_getElem? e
  obtain ⟨m, e1, e2⟩ := x.pre
  refine ⟨x.pre, x.fz, fun y w q hy => ?_, fun y q => ?_, x.newF, fun k o' hk' q => ?_, fun k y o' f1 f2 f3 => ?_⟩
  · rw [upd_ne ?_]
    · exact x.frame y w q hy
    · rintro rfl
      rw [e1] at ha
      rcases List.mem_append.mp ha with z | z
      · exact hy z
      · rw [e2 _ z] at q; cases q
  · by_cases hy : y = a
    · subst hy; rw [upd_same]; simp
    · rw [upd_ne hy]; exact x.dom y q
  · by_cases hn : n = k
    · subst hn
      have hl := (List.getElem?_eq_some_iff.mp q).1
      rw [List.length_set] at hl
      rw [List.getElem?_set_self hl] at q
      cases q
      rcases hk with z | z
      · omega
      · exact .inr z
    · rw [List.getElem?_set_ne hn] at q
      exact x.keep k o' hk' q
  · obtain ⟨w1, w2⟩ := x.st k y o' f1 f2 f3
    have f1' : μ1[k]? = some y := x.ix k y f1
    have hn : n ≠ k := by
      rintro rfl
      rw [e0] at w1; cases w1
      rw [n0] at f3; cases f3
    refine ⟨by rw [List.getElem?_set_ne hn]; exact w1, fun w z => ?_⟩
    have hne : y ≠ a := by
      rintro rfl
      obtain ⟨l1, q1⟩ := List.getElem?_eq_some_iff.mp e
      obtain ⟨l2, q2⟩ := List.getElem?_eq_some_iff.mp f1'
      exact hn ((List.getElem_inj r1.nd).mp (q1.trans q2.symm))
    rw [upd_ne hne]
    exact w2 w z
/-- .. whatever it is now, where it was no fixed one at the start -/
theorem Ext.put' (x : Ext b μ F H h μ1 F1 H1 h1) {n : Nat} {a : Addr} {o : O} {u : HO} (r1 : RelH ca μ1 F1 h1 H1) (e : μ1[n]? = some a) (n0 : ∀ o', h[n]? = some o' → stb o' = true → False) (hk : b ≤ n ∨ nrfO o = true) : Ext b μ F H h μ1 F1 (L2.upd H1 a u) (h1.set n o) := by
  have ha : a ∈ μ1 := List.mem_of_getElem? e
  obtain ⟨m, e1, e2⟩ := x.pre
  refine ⟨x.pre, x.fz, fun y w q hy => ?_, fun y q => ?_, x.newF, fun k o' hk' q => ?_, fun k y o' f1 f2 f3 => ?_⟩
  · rw [upd_ne ?_]
    · exact x.frame y w q hy
    · rintro rfl
      rw [e1] at ha
      rcases List.mem_append.mp ha with z | z
      · exact hy z
      · rw [e2 _ z] at q; cases q
  · by_cases hy : y = a
    · subst hy; rw [upd_same]; simp
    · rw [upd_ne hy]; exact x.dom y q
  · by_cases hn : n = k
    · subst hn
      have hl := (List.getElem?_eq_some_iff.mp q).1
      rw [List.length_set] at hl
      rw [List.getElem?_set_self hl] at q
      cases q
      rcases hk with z | z
      · omega
      · exact .inr z
    · rw [List.getElem?_set_ne hn] at q
      exact x.keep k o' hk' q
  · obtain ⟨w1, w2⟩ := x.st k y o' f1 f2 f3
    have f1' : μ1[k]? = some y := x.ix k y f1
    have hn : n ≠ k := by
      rintro rfl
      exact n0 o' f2 f3
    refine ⟨by rw [List.getElem?_set_ne hn]; exact w1, fun w z => ?_⟩
    have hne : y ≠ a := by
      rintro rfl
      obtain ⟨l1, q1⟩ := List.getElem?_eq_some_iff.mp e
      obtain ⟨l2, q2⟩ := List.getElem?_eq_some_iff.mp f1'
      exact hn ((List.getElem_inj r1.nd).mp (q1.trans q2.symm))
    rw [upd_ne hne]
    exact w2 w z
theorem Ext.base {b' : Nat} (x : Ext b μ F H h μ1 F1 H1 h1) (hb : b' ≤ b) : Ext b' μ F H h μ1 F1 H1 h1 := ⟨x.pre, x.fz, x.frame, x.dom, x.newF, fun k o hk q => x.keep k o (Nat.lt_of_lt_of_le hk hb) q, x.st⟩
/-- an own object is frozen where it stands -/
theorem RelH.fzOwn (r : RelH ca μ F h H) {n : Nat} {a : Addr} {o : O} {u : HO} (e : μ[n]? = some a) (e0 : h[n]? = some o) (n0 : o ≠ .dead) (hu : H a = some u) : RelH ca μ (L2.upd F a u) (h.set n .dead) H := by
  have hF := r.sep n a o e e0 n0
  have hs : Same F (L2.upd F a u) := fun x w q => by rw [upd_ne (ne_of_none q hF)]; exact q
  refine ⟨by simp [r.len], r.nd, fun x w q => ?_, fun k x o' e1 e2 e3 => ?_, r.dom, fun k x o' e1 e2 => ?_⟩
  · by_cases hx : x = a
    · subst hx; rw [upd_same] at q; cases q; exact hu
    · rw [upd_ne hx] at q; exact r.fz x w q
  · by_cases hk : n = k
    · subst hk
      have hl := (List.getElem?_eq_some_iff.mp e2).1
      rw [List.length_set] at hl
      rw [List.getElem?_set_self hl] at e2
      cases e2
      exact absurd rfl e3
    · rw [List.getElem?_set_ne hk] at e2
      have hne : x ≠ a := by
        rintro rfl
        obtain ⟨l1, q1⟩ := List.getElem?_eq_some_iff.mp e
        obtain ⟨l2, q2⟩ := List.getElem?_eq_some_iff.mp e1
        exact hk ((List.getElem_inj r.nd).mp (q1.trans q2.symm))
      rw [upd_ne hne]
      exact r.sep k x o' e1 e2 e3
  · by_cases hk : n = k
    · subst hk
      have hl := (List.getElem?_eq_some_iff.mp e2).1
      rw [List.length_set] at hl
      rw [List.getElem?_set_self hl] at e2
      cases e2
      exact True.intro
    · rw [List.getElem?_set_ne hk] at e2
      exact (r.ob k x o' e1 e2).mono (fun _ _ q => q) hs fun _ q => q
theorem Ext.fzOwn (x : Ext b μ F H h μ1 F1 H1 h1) (r1 : RelH ca μ1 F1 h1 H1) {n : Nat} {a : Addr} {o : O} {u : HO} (e : μ1[n]? = some a) (e0 : h1[n]? = some o) (n0 : o ≠ .dead) (n1 : stb o = false) : Ext b μ F H h μ1 (L2.upd F1 a u) H1 (h1.set n .dead) := by
  have hF := r1.sep n a o e e0 n0
  have ha : a ∈ μ1 := List.mem_of_getElem? e
  obtain ⟨m, e1, e2⟩ := x.pre
  refine ⟨x.pre, fun y w q => ?_, x.frame, x.dom, fun y q => ?_, fun k o' hk q => ?_, fun k y o' f1 f2 f3 => ?_⟩
  · have := x.fz y w q
    rw [upd_ne (ne_of_none this hF)]; exact this
  · by_cases hy : y = a
    · subst hy
      rw [e1] at ha
      rcases List.mem_append.mp ha with z | z
      · exact .inr (.inl z)
      · exact .inr (.inr (.inl (e2 _ z)))
    · rw [upd_ne hy] at q; exact x.newF y q
  · by_cases hn : n = k
    · subst hn
      have hl := (List.getElem?_eq_some_iff.mp q).1
      rw [List.length_set] at hl
      rw [List.getElem?_set_self hl] at q
      cases q
      exact .inr rfl
    · rw [List.getElem?_set_ne hn] at q
      exact x.keep k o' hk q
  · obtain ⟨w1, w2⟩ := x.st k y o' f1 f2 f3
    have hn : n ≠ k := by
      rintro rfl
      rw [e0] at w1; cases w1
      rw [n1] at f3; cases f3
    exact ⟨by rw [List.getElem?_set_ne hn]; exact w1, w2⟩
/-- an own thing is no tuple -/
theorem OR.noTup {a : Addr} {o : O} {xs : List V} (h : OR ca μ F H a o) (n0 : o ≠ .dead) (e : H a = some (.tup xs)) : False := by
  cases o with
  | lst _ => obtain ⟨_, q, _⟩ := h; rw [e] at q; cases q
  | dK _ => obtain ⟨_, q, _⟩ := h; rw [e] at q; cases q
  | dT _ => obtain ⟨_, q, _⟩ := h; rw [e] at q; cases q
  | ins _ _ => obtain ⟨_, _, q, _⟩ := h; rw [e] at q; cases q
  | lkK _ => obtain ⟨_, _, q, _⟩ := h; rw [e] at q; cases q
  | lkT _ => obtain ⟨_, _, q, _⟩ := h; rw [e] at q; cases q
  | dead => exact n0 rfl
/-- a tuple that stands is taken into the frozen part -/
theorem RelH.fzTup (r : RelH ca μ F h H) {a : Addr} {xs : List V} (e : H a = some (.tup xs)) : ∃ F', F' a = some (.tup xs) ∧ RelH ca μ F' h H ∧ ∀ b, Ext b μ F H h μ F' H h := by
  cases q : F a with
  | some w =>
    have := r.fz a w q
    rw [e] at this; cases this
    exact ⟨F, q, r, fun b => Ext.refl⟩
  | none =>
    have hs : Same F (L2.upd F a (.tup xs)) := fun x w q' => by rw [upd_ne (ne_of_none q' q)]; exact q'
    refine ⟨L2.upd F a (.tup xs), upd_same, ⟨r.len, r.nd, fun x w q' => ?_, fun n x o e1 e2 e3 => ?_, r.dom, fun n x o e1 e2 => (r.ob n x o e1 e2).mono (fun _ _ z => z) hs fun _ z => z⟩, fun b => ⟨⟨[], by simp, by simp⟩, hs, fun _ _ z _ => z, fun _ z => z, fun x q' => ?_, fun _ _ _ z => .inl z, fun _ _ _ _ z _ => ⟨z, fun _ z => z⟩⟩⟩
    · by_cases hx : x = a
      · subst hx; rw [upd_same] at q'; cases q'; exact e
      · rw [upd_ne hx] at q'; exact r.fz x w q'
    · have hne : x ≠ a := by rintro rfl; exact (r.ob n x o e1 e2).noTup e3 e
      rw [upd_ne hne]; exact r.sep n x o e1 e2 e3
    · by_cases hx : x = a
      · subst hx; exact .inr (.inr (.inr ⟨xs, e⟩))
      · rw [upd_ne hx] at q'; exact .inl q'
/-- a new object of nobody changes -/
theorem RelH.updFree (r : RelH ca μ F h H) {a : Addr} {u : HO} (h1 : a ∉ μ) (h2 : F a = none) : RelH ca μ F h (L2.upd H a u) := by
  refine ⟨r.len, r.nd, fun x w q => by rw [upd_ne (ne_of_none q h2)]; exact r.fz x w q, r.sep, fun x hx => ?_, fun n x o' e1 e2 => (r.ob n x o' e1 e2).mono (fun _ _ q => q) (Same.refl _) fun w q => ?_⟩
  · rw [upd_ne (show x ≠ a by rintro rfl; exact h1 hx)]; exact r.dom x hx
  · rw [upd_ne (show x ≠ a by rintro rfl; exact h1 (List.mem_of_getElem? e1))]; exact q
theorem Ext.updFree (x : Ext b μ F H h μ1 F1 H1 h1) {a : Addr} {u : HO} (ha : H a = none) : Ext b μ F H h μ1 F1 (L2.upd H1 a u) h1 := by
  refine ⟨x.pre, x.fz, fun y w q hy => ?_, fun y q => ?_, x.newF, x.keep, fun n y o' f1 f2 f3 => ⟨(x.st n y o' f1 f2 f3).1, fun w z => ?_⟩⟩
  · rw [upd_ne (ne_of_none q ha)]; exact x.frame y w q hy
  · by_cases hy : y = a
    · subst hy; rw [upd_same]; simp
    · rw [upd_ne hy]; exact x.dom y q
  · rw [upd_ne (ne_of_none z ha)]
    exact (x.st n y o' f1 f2 f3).2 w z
end
end Z
set_option Elab.async false
set_option linter.all false
set_option maxRecDepth 100000
set_option maxHeartbeats 1000000
/-! Z2: judgements; expressions. -/
namespace Z
open PySem PySem.Spec L2

/-- what is wanted behind a run -/
def PostG {α : Type} (ca : Cn) (b : Nat) (μ : List Addr) (F H : Hp) (h : Own) (r : Res α) (W : Nat → Hp → Prop) (K : α → List Addr → Hp → Hp → Own → Prop) : Prop :=
  match r with
  | .ok a h1 => ∀ μ1 F1 H1, Ext b μ F H h μ1 F1 H1 h1 → RelH ca μ1 F1 h1 H1 → K a μ1 F1 H1 h1
  | .exc c h1 => ∀ μ1 F1 H1, Ext b μ F H h μ1 F1 H1 h1 → RelH ca μ1 F1 h1 H1 → W c H1
  | .stuck => False
section
variable {α β : Type} {ca : Cn} {b : Nat} {μ : List Addr} {F H : Hp} {h : Own} {W : Nat → Hp → Prop}
theorem PostG.bind {x : Res α} {f : α → Own → Res β} {K : β → List Addr → Hp → Hp → Own → Prop} (p : PostG ca b μ F H h (x.bind f) W K) :
    PostG ca b μ F H h x W fun a μ1 F1 H1 h1 => PostG ca b μ1 F1 H1 h1 (f a h1) W K := by
  cases x with
  | stuck => exact p
  | exc c h1 => exact p
  | ok a h1 =>
    intro μ1 F1 H1 E1 R1
    have p' : PostG ca b μ F H h (f a h1) W K := p
    cases e : f a h1 with
    | stuck => rw [e] at p'; exact p'
    | exc c h2 => rw [e] at p'; exact fun μ2 F2 H2 E2 R2 => p' μ2 F2 H2 (E1.trans E2) R2
    | ok a2 h2 => rw [e] at p'; exact fun μ2 F2 H2 E2 R2 => p' μ2 F2 H2 (E1.trans E2) R2
theorem PostG.imp {r : Res α} {K K' : α → List Addr → Hp → Hp → Own → Prop} (p : PostG ca b μ F H h r W K)
    (i : ∀ a μ1 F1 H1 h1, Ext b μ F H h μ1 F1 H1 h1 → RelH ca μ1 F1 h1 H1 → K a μ1 F1 H1 h1 → K' a μ1 F1 H1 h1) : PostG ca b μ F H h r W K' := by
  cases r with
  | stuck => exact p
  | exc c h1 => exact p
  | ok a h1 => exact fun μ1 F1 H1 E1 R1 => i a μ1 F1 H1 h1 E1 R1 (p μ1 F1 H1 E1 R1)
theorem PostG.ok {a : α} {K : α → List Addr → Hp → Hp → Own → Prop} (p : PostG ca b μ F H h (.ok a h) W K) (R : RelH ca μ F h H) : K a μ F H h := p μ F H Ext.refl R
end
/-- own state and HandS' state -/
structure At (ca : Cn) (μ : List Addr) (F : Hp) (τ : Fm) (h : Own) (σ : L2.St) (H : Hp) : Prop where
  rel : RelH ca μ F h H
  sl : SR ca μ F τ.s σ
  bl : τ.b ≤ h.length
theorem At.ext {ca : Cn} {μ μ1 : List Addr} {F F1 : Hp} {τ : Fm} {h h1 : Own} {σ : L2.St} {H H1 : Hp} {b : Nat} (a : At ca μ F τ h σ H) (e : Ext b μ F H h μ1 F1 H1 h1) (r : RelH ca μ1 F1 h1 H1) : At ca μ1 F1 τ h1 σ H1 :=
  ⟨r, e.sr a.sl, Nat.le_trans a.bl (e.len a.rel r)⟩
abbrev EX := Fm → Own → Res R
abbrev ED := Fm → Own → Res D
abbrev EA := Fm → Own → Res (List D)
abbrev EB := Fm → Own → Res Bool
abbrev WF := L2.WX
def wx (ca : Cn) (W : WF) (σ : L2.St) : Nat → Hp → Prop := fun c H => W (.ref (ca.ad c)) none σ H
def rdE (ca : Cn) (W : WF) (x : EX) : TE := fun σ H Q => ∃ μ F τ h, At ca μ F τ h σ H ∧ PostG ca τ.b μ F H h (x τ h) (wx ca W σ) fun r μ1 F1 H1 _ => ∀ v, RR ca μ1 F1 H H1 v r → Q v H1
def rdD (ca : Cn) (W : WF) (x : ED) : TE := fun σ H Q => ∃ μ F τ h, At ca μ F τ h σ H ∧ PostG ca τ.b μ F H h (x τ h) (wx ca W σ) fun d μ1 F1 H1 _ => ∀ v, VR ca μ1 F1 v d → Q v H1
def rdA (ca : Cn) (W : WF) (x : EA) : TA := fun σ H Q => ∃ μ F τ h, At ca μ F τ h σ H ∧ PostG ca τ.b μ F H h (x τ h) (wx ca W σ) fun ds μ1 F1 H1 _ => ∀ vs, VRs ca μ1 F1 vs ds → Q vs H1
def rdB (ca : Cn) (W : WF) (x : EB) : TT := fun σ H Q => ∃ μ F τ h, At ca μ F τ h σ H ∧ PostG ca τ.b μ F H h (x τ h) (wx ca W σ) fun k _ _ H1 _ => Q k H1
def SE (ca : Cn) (X : Cx) (W : WF) (e : Expr) (x : EX) : Prop := PE X e (rdE ca W x)
def SD (ca : Cn) (X : Cx) (W : WF) (e : Expr) (x : ED) : Prop := PE X e (rdD ca W x)
def SA (ca : Cn) (X : Cx) (W : WF) (e : List Expr) (x : EA) : Prop := PA X e (rdA ca W x)
def SB (ca : Cn) (X : Cx) (W : WF) (e : Expr) (x : EB) : Prop := PT X e (rdB ca W x)
def SW (ca : Cn) (X : Cx) (W : WF) (e : Expr) (x : EB) : Prop := PW X e (rdB ca W x)
theorem PE.imp {X : Cx} {e : Expr} {t t' : TE} (h : PE X e t) (i : ∀ σ H Q, t' σ H Q → t σ H Q) : PE X e t' := ⟨fun pins s σ H Q I q => h.run pins s σ H Q I (i σ H Q q)⟩
theorem PT.imp {X : Cx} {e : Expr} {t t' : TT} (h : PT X e t) (i : ∀ σ H Q, t' σ H Q → t σ H Q) : PT X e t' := ⟨fun pins s σ H Q I q => h.run pins s σ H Q I (i σ H Q q)⟩
theorem PW.imp {X : Cx} {e : Expr} {t t' : TT} (h : PW X e t) (i : ∀ σ H Q, t' σ H Q → t σ H Q) : PW X e t' := ⟨fun wh pins s σ H Q I q => h.run wh pins s σ H Q I (i σ H Q q)⟩
theorem PA.imp {X : Cx} {e : List Expr} {t t' : TA} (h : PA X e t) (i : ∀ σ H Q, t' σ H Q → t σ H Q) : PA X e t' := ⟨fun pos pins s σ H Q I q => h.run pos pins s σ H Q I (i σ H Q q)⟩
theorem PS.imp {X : Cx} {e : Stmt} {t t' : TS} (h : PS X e t) (i : ∀ D σ H, t' D σ H → t D σ H) : PS X e t' := ⟨fun pins s σ H Q I q => h.run pins s σ H Q I (i Q σ H q)⟩
theorem PSs.imp {X : Cx} {e : List Stmt} {t t' : TS} (h : PSs X e t) (i : ∀ D σ H, t' D σ H → t D σ H) : PSs X e t' := ⟨fun pins s σ H Q I q => h.run pins s σ H Q I (i Q σ H q)⟩

/-! ### values and new objects -/
def frzO : O → Option D
  | .lst ds => some (.lst ds)
  | .dK k => some (.dK k)
  | .dT k => some (.dT k)
  | .ins c fs => some (.obj c fs)
  | .dead => none
  | .lkK _ => none
  | .lkT _ => none
/-- the outcome frozen -/
def ed (x : EX) : ED := fun τ h => (x τ h).bind fun r h1 => match r with
  | .v d => .ok d h1
  | .n o => match frzO o with
    | some d => .ok d h1
    | none => .stuck
def ev (x : ED) : EX := fun τ h => (x τ h).bind fun d h1 => .ok (.v d) h1
section
variable {ca : Cn} {X : Cx} {W : WF} {e : Expr}
theorem frz_ok {μ : List Addr} {F H : Hp} {a : Addr} {o : O} {d : D} (ho : OR ca μ F H a o) (e : frzO o = some d) (hF : F a = none) : ∃ u, H a = some u ∧ VR ca μ (upd F a u) (.ref a) d := by
  have hs : ∀ u, Same F (upd F a u) := fun u x w q => by rw [upd_ne (ne_of_none q hF)]; exact q
  cases o with
  | lst ds =>
    obtain ⟨vs, q, r⟩ := ho
    cases e
    exact ⟨_, q, .lst upd_same (r.mono (fun _ _ z => z) (hs _))⟩
  | dK ds =>
    obtain ⟨vs, q, k, r⟩ := ho
    cases e
    exact ⟨_, q, .dK upd_same k (r.mono (fun _ _ z => z) (hs _))⟩
  | dT ds =>
    obtain ⟨vs, q, k, r⟩ := ho
    cases e
    exact ⟨_, q, .dT upd_same k (r.mono (fun _ _ z => z) (hs _))⟩
  | ins c ds =>
    obtain ⟨dx, vs, q, k, r⟩ := ho
    cases e
    exact ⟨_, q, .obj upd_same k (r.mono (fun _ _ z => z) (hs _))⟩
  | dead => cases e
  | lkK _ => cases e
  | lkT _ => cases e
/-- from a wish about what is frozen to one about the outcome -/
theorem frz_post {b : Nat} {μ : List Addr} {F H : Hp} {h : Own} {Wx : Nat → Hp → Prop} {r : Res R} {Q : VK}
    (p : PostG ca b μ F H h (r.bind fun r h1 => match r with | .v d => .ok d h1 | .n o => match frzO o with | some d => .ok d h1 | none => .stuck) Wx fun d μ1 F1 H1 _ => ∀ v, VR ca μ1 F1 v d → Q v H1) :
    PostG ca b μ F H h r Wx fun r μ1 F1 H1 _ => ∀ v, RR ca μ1 F1 H H1 v r → Q v H1 := by
  cases r with
  | stuck => exact p
  | exc c h1 => exact p
  | ok a h1 =>
    intro μ1 F1 H1 E1 R1 v V
    cases a with
    | v d => exact p μ1 F1 H1 E1 R1 v V
    | n o =>
      have p' : PostG ca b μ F H h (match frzO o with | some d => .ok d h1 | none => .stuck) Wx fun d μ1 F1 H1 _ => ∀ v, VR ca μ1 F1 v d → Q v H1 := p
      cases hf : frzO o with
      | none => rw [hf] at p'; exact p'.elim
      | some d =>
        rw [hf] at p'
        obtain ⟨a, rfl, h0, hd, hm, hF, ho⟩ := V
        obtain ⟨u, hu, hv⟩ := frz_ok ho hf hF
        exact p' μ1 _ H1 (E1.freeze h0 hF) (R1.freeze hu hm hF) _ hv
theorem SD.of {x : EX} (h : SE ca X W e x) : SD ca X W e (ed x) := PE.imp h fun σ H Q ⟨μ, F, τ, h, A, p⟩ => ⟨μ, F, τ, h, A, frz_post p⟩
theorem SE.of {x : ED} (h : SD ca X W e x) : SE ca X W e (ev x) := PE.imp h fun σ H Q ⟨μ, F, τ, h, A, p⟩ => ⟨μ, F, τ, h, A, by
  have p' := p.bind
  exact p'.imp fun d μ1 F1 H1 h1 E1 R1 q v V => q.ok R1 v V⟩

/-! ### names, constants -/
def eVar (i : Nat) : ED := fun τ h => match τ.s[i]? with
  | some (some d) => .ok d h
  | _ => .stuck
def eC (d : D) : ED := fun _ h => .ok d h
theorem sd_var {i : Nat} {x : Str} {pos : Pos} (h : PE X (.Name x pos) (tVar i)) : SD ca X W (.Name x pos) (eVar i) := PE.imp h fun σ H Q ⟨μ, F, τ, h, A, p⟩ => by
  unfold eVar at p
  split at p
  · rename_i d e
    obtain ⟨v, e1, r⟩ := A.sl.2 i d e
    exact ⟨v, e1, p.ok A.rel v r⟩
  · exact p.elim
theorem sd_int {i j pos} : SD ca X W (.Constant (.int i) j pos) (eC (.int i)) := PE.imp pe_int fun σ H Q ⟨μ, F, τ, h, A, p⟩ => p.ok A.rel _ (.int i)
theorem sd_bl {i j pos} : SD ca X W (.Constant (.bool i) j pos) (eC (.bl i)) := PE.imp pe_bl fun σ H Q ⟨μ, F, τ, h, A, p⟩ => p.ok A.rel _ (.bl i)
theorem sd_non {j pos} : SD ca X W (.Constant .none j pos) (eC .non) := PE.imp pe_non fun σ H Q ⟨μ, F, τ, h, A, p⟩ => p.ok A.rel _ .non
theorem sd_str {i j pos} : SD ca X W (.Constant (.str i) j pos) (eC (.str i)) := PE.imp pe_str fun σ H Q ⟨μ, F, τ, h, A, p⟩ => p.ok A.rel _ (.str i)
/-- a constant of the module: an int, a bool, a text -/
theorem sd_glob {x : Str} {d : D} {v : V} {pos : Pos} (h : PE X (.Name x pos) (tC v)) (r : ∀ μ F, VR ca μ F v d) : SD ca X W (.Name x pos) (eC d) := PE.imp h fun σ H Q ⟨μ, F, τ, h, A, p⟩ => p.ok A.rel _ (r μ F)

/-! ### operators on values -/
abbrev F2 := D → D → Own → Res R
/-- f is what the operator with the reading r does -/
def Lk2 (ca : Cn) (f : F2) (r : R2) : Prop := ∀ (b : Nat) (μ : List Addr) (F H : Hp) (h : Own) (Wx : Nat → Hp → Prop) (x y : V) (c d : D) (Q : VK), RelH ca μ F h H → VR ca μ F x c → VR ca μ F y d → b ≤ h.length →
  PostG ca b μ F H h (f c d h) Wx (fun r μ1 F1 H1 _ => ∀ v, RR ca μ1 F1 H H1 v r → Q v H1) → r x y H Q
def e2 (f : F2) (a b : ED) : EX := fun τ h => (a τ h).bind fun x h1 => (b τ h1).bind fun y h2 => f x y h2
theorem lk_op {f : F2} {r : R2} {ta tb : ED} (lk : Lk2 ca f r) : ∀ σ H Q, rdE ca W (e2 f ta tb) σ H Q → tOp r (rdD ca W ta) (rdD ca W tb) σ H Q := fun σ H Q ⟨μ, F, τ, h, A, p⟩ =>
  ⟨μ, F, τ, h, A, p.bind.imp fun c μ1 F1 H1 h1 E1 R1 q v V => ⟨μ1, F1, τ, h1, A.ext E1 R1, q.bind.imp fun d μ2 F2 H2 h2 E2 R2 q2 w V2 =>
    lk τ.b μ2 F2 H2 h2 _ v w c d Q R2 (E2.vr V) V2 (Nat.le_trans A.bl (Nat.le_trans (E1.len A.rel R1) (E2.len R1 R2))) (q2.imp fun r μ3 F3 H3 h3 E3 R3 q3 u V3 => q3 u (RR.back E1 (RR.back E2 V3)))⟩⟩
theorem se_op {op : Operator} {a b : Expr} {pos : Pos} {f : F2} {r : R2} {ta tb : ED} (ho : OpR X (binaryOp op) r) (lk : Lk2 ca f r) (ha : SD ca X W a ta) (hb : SD ca X W b tb) : SE ca X W (.BinOp a op b pos) (e2 f ta tb) := PE.imp (pe_op ho ha hb) (lk_op lk)
theorem se_cmp {op : CmpOp} {a b : Expr} {pos : Pos} {f : F2} {r : R2} {ta tb : ED} (ho : OpR X (compareOp op) r) (lk : Lk2 ca f r) (ha : SD ca X W a ta) (hb : SD ca X W b tb) (hm : behindInMarks op b = false) : SE ca X W (.Compare a [op] [b] pos) (e2 f ta tb) := PE.imp (pe_cmpR ho ha hb hm) (lk_op lk)
theorem Lk2.or {f g : F2} {r s : R2} (a : Lk2 ca f r) (b : Lk2 ca g s) : Lk2 ca (fun x y h => match f x y h with | .stuck => g x y h | z => z) (fun x y H Q => r x y H Q ∨ s x y H Q) := by
  intro n μ F H h Wx x y c d Q R V1 V2 hb p
  cases e : f c d h with
  | stuck => simp only [e] at p; exact .inr (b n μ F H h Wx x y c d Q R V1 V2 hb p)
  | ok _ _ => simp only [e] at p; exact .inl (a n μ F H h Wx x y c d Q R V1 V2 hb (by rw [e]; exact p))
  | exc _ _ => simp only [e] at p; exact .inl (a n μ F H h Wx x y c d Q R V1 V2 hb (by rw [e]; exact p))
def fI (g : Int → Int → D) : F2
  | .int i, .int j, h => .ok (.v (g i j)) h
  | _, _, _ => .stuck
def fIc (C : Int → Int → Bool) (g : Int → Int → D) : F2
  | .int i, .int j, h => if C i j = true then .ok (.v (g i j)) h else .stuck
  | _, _, _ => .stuck
theorem lkI {g : Int → Int → V} {g' : Int → Int → D} (hg : ∀ i j μ F, VR ca μ F (g i j) (g' i j)) : Lk2 ca (fI g') (rI0 g) := by
  intro b μ F H h Wx x y c d Q R V1 V2 _ p
  cases V1 <;> first | exact p.elim | skip
  cases V2 <;> first | exact p.elim | skip
  exact ⟨_, _, rfl, rfl, p.ok R _ (hg _ _ _ _)⟩
theorem lkIc {C : Int → Int → Prop} {C' : Int → Int → Bool} {g : Int → Int → V} {g' : Int → Int → D} (hc : ∀ i j, C' i j = true → C i j) (hg : ∀ i j μ F, VR ca μ F (g i j) (g' i j)) : Lk2 ca (fIc C' g') (rI C g) := by
  intro b μ F H h Wx x y c d Q R V1 V2 _ p
  cases V1 with
  | int i =>
    cases V2 with
    | int j =>
      have p' : PostG ca b μ F H h (if C' i j = true then .ok (.v (g' i j)) h else .stuck) Wx (fun r μ1 F1 H1 _ => ∀ v, RR ca μ1 F1 H H1 v r → Q v H1) := p
      by_cases hC : C' i j = true
      · rw [if_pos hC] at p'
        exact ⟨_, _, rfl, rfl, hc _ _ hC, p'.ok R _ (hg _ _ _ _)⟩
      · rw [if_neg hC] at p'
        exact p'.elim
    | _ => exact (show False from p).elim
  | _ => exact (show False from p).elim
end
end Z
set_option Elab.async false
set_option linter.all false
set_option maxRecDepth 100000
set_option maxHeartbeats 1000000
/-! Z3: operators. -/
namespace Z
open PySem PySem.Spec L2
section
variable {ca : Cn} {X : Cx} {W : WF}
def fSub : F2 := fI fun i j => .int (i - j)
def fMul : F2 := fIc (fun i j => decide (-(2 ^ 64) < i ∧ i < 2 ^ 64) || decide (-(2 ^ 64) < j ∧ j < 2 ^ 64)) fun i j => .int (i * j)
def fDiv : F2 := fIc (fun _ j => decide (0 < j) && decide (j < 1073741824)) fun i j => .int (i / j)
def fMod : F2 := fIc (fun _ j => decide (0 < j)) fun i j => .int (i % j)
def fPow : F2 := fIc (fun i j => decide (0 ≤ j) && decide (j ≤ 1000000) && decide (i.natAbs < 2 ^ 64)) fun i j => .int (i ^ j.toNat)
def fShl : F2 := fIc (fun i j => decide (0 ≤ j) && decide (j ≤ 1000000) && decide (i.natAbs < 2 ^ 64)) fun i j => .int (i * 2 ^ j.toNat)
def fShr : F2 := fIc (fun _ j => decide (0 ≤ j)) fun i j => .int (i / 2 ^ j.toNat)
def fAnd : F2 := fI fun i j => .int (Builtin.bitAnd i j)
def fOr : F2 := fI fun i j => .int (Builtin.bitOr i j)
def fLt : F2 := fI fun i j => .bl (decide (i < j))
def fLe : F2 := fI fun i j => .bl (decide (i ≤ j))
def fGt : F2 := fI fun i j => .bl (decide (j < i))
def fGe : F2 := fI fun i j => .bl (decide (j ≤ i))
theorem lk_sub : Lk2 ca fSub (rI0 fun i j => .int (i - j)) := lkI fun i j _ _ => .int _
theorem lk_mul : Lk2 ca fMul (rI CMul fun i j => .int (i * j)) := lkIc (fun i j q => by simpa [CMul] using q) fun i j _ _ => .int _
theorem lk_div : Lk2 ca fDiv (rI CDiv fun i j => .int (i / j)) := lkIc (fun i j q => by simpa [CDiv] using q) fun i j _ _ => .int _
theorem lk_mod : Lk2 ca fMod (rI (fun _ j => 0 < j) fun i j => .int (i % j)) := lkIc (fun i j q => by simpa using q) fun i j _ _ => .int _
theorem lk_pow : Lk2 ca fPow (rI CPow fun i j => .int (i ^ j.toNat)) := lkIc (fun i j q => by simpa [CPow, and_assoc] using q) fun i j _ _ => .int _
theorem lk_shl : Lk2 ca fShl (rI CPow fun i j => .int (i * 2 ^ j.toNat)) := lkIc (fun i j q => by simpa [CPow, and_assoc] using q) fun i j _ _ => .int _
theorem lk_shr : Lk2 ca fShr (rI (fun _ j => 0 ≤ j) fun i j => .int (i / 2 ^ j.toNat)) := lkIc (fun i j q => by simpa using q) fun i j _ _ => .int _
theorem lk_and : Lk2 ca fAnd (rI0 fun i j => .int (Builtin.bitAnd i j)) := lkI fun i j _ _ => .int _
theorem lk_or : Lk2 ca fOr (rI0 fun i j => .int (Builtin.bitOr i j)) := lkI fun i j _ _ => .int _
theorem lk_lt : Lk2 ca fLt (rI0 fun i j => .bl (decide (i < j))) := lkI fun i j _ _ => .bl _
theorem lk_le : Lk2 ca fLe (rI0 fun i j => .bl (decide (i ≤ j))) := lkI fun i j _ _ => .bl _
theorem lk_gt : Lk2 ca fGt (rI0 fun i j => .bl (decide (j < i))) := lkI fun i j _ _ => .bl _
theorem lk_ge : Lk2 ca fGe (rI0 fun i j => .bl (decide (j ≤ i))) := lkI fun i j _ _ => .bl _

/-! ### sequences -/
/-- a list's items -/
def asL (h : Own) : D → Option (List D)
  | .lst ds => some ds
  | .ref n => match h[n]? with
    | some (.lst ds) => some ds
    | _ => none
  | _ => none
def asQ (h : Own) : D → Option (List D)
  | .tup ds => some ds
  | d => asL h d
theorem asL_ok {μ : List Addr} {F H : Hp} {h : Own} {v : V} {d : D} {ds : List D} (R : RelH ca μ F h H) (V1 : VR ca μ F v d) (e : asL h d = some ds) : ∃ a vs, v = .ref a ∧ H a = some (.lst vs) ∧ VRs ca μ F vs ds := by
  cases V1 with
  | lst q r => cases e; exact ⟨_, _, rfl, R.fz _ _ q, r⟩
  | ref q =>
    rename_i a n
    unfold asL at e
    dsimp only at e
    split at e
    · rename_i ds' q2
      cases e
      obtain ⟨vs, q3, r⟩ := R.ob n _ _ q q2
      exact ⟨_, vs, rfl, q3, r⟩
    · cases e
  | _ => cases e
theorem asQ_ok {μ : List Addr} {F H : Hp} {h : Own} {v : V} {d : D} {ds : List D} (R : RelH ca μ F h H) (V1 : VR ca μ F v d) (e : asQ h d = some ds) : ∃ a vs, v = .ref a ∧ (H a = some (.lst vs) ∨ H a = some (.tup vs)) ∧ VRs ca μ F vs ds := by
  cases V1 with
  | tup q r => cases e; exact ⟨_, _, rfl, .inr (R.fz _ _ q), r⟩
  | lst q r => cases e; exact ⟨_, _, rfl, .inl (R.fz _ _ q), r⟩
  | ref q =>
    obtain ⟨a, vs, e1, e2, e3⟩ := asL_ok R (.ref q) (ds := ds) e
    exact ⟨a, vs, e1, .inl e2, e3⟩
  | _ => cases e
theorem SqQ {K : PySem.W.Frag} {H : Hp} {a : Addr} {vs : List V} (h : H a = some (.lst vs) ∨ H a = some (.tup vs)) : SqL K H a vs ∨ SqT K H a vs := h.elim (fun z => .inl (SqL.of z)) fun z => .inr (SqT.of z)
/-- a new frozen object -/
theorem fzNew {b : Nat} {μ : List Addr} {F H : Hp} {h : Own} (R : RelH ca μ F h H) {p : Addr} (hp : H p = none) (u : HO) : Ext b μ F H h μ (upd F p u) (upd H p u) h ∧ RelH ca μ (upd F p u) h (upd H p u) := by
  have hF : F p = none := by
    cases q : F p with
    | none => rfl
    | some w => have := R.fz _ _ q; rw [hp] at this; cases this
  have hm : p ∉ μ := fun z => R.dom p z hp
  exact ⟨((Ext.refl (b := b) (μ := μ) (F := F) (H := H) (h := h)).upd hp).freeze hp hF, (R.upd hp).freeze upd_same hm hF⟩
/-- a new object of nobody -/
theorem neNew {b : Nat} {μ : List Addr} {F H : Hp} {h : Own} (R : RelH ca μ F h H) {p : Addr} (hp : H p = none) (u : HO) {o : O} (ho : ∀ H', H' p = some u → OR ca μ F H' p o) :
    Ext b μ F H h μ F (upd H p u) h ∧ RelH ca μ F h (upd H p u) ∧ RR ca μ F H (upd H p u) (.ref p) (.n o) := by
  have hF : F p = none := by
    cases q : F p with
    | none => rfl
    | some w => have := R.fz _ _ q; rw [hp] at this; cases this
  have hm : p ∉ μ := fun z => R.dom p z hp
  exact ⟨(Ext.refl (b := b) (μ := μ) (F := F) (H := H) (h := h)).upd hp, R.upd hp, p, rfl, hp, (by rw [upd_same]; simp), hm, hF, ho _ upd_same⟩
/-- the wish at a new list -/
theorem new_lst {b : Nat} {μ : List Addr} {F H : Hp} {h : Own} {Wx : Nat → Hp → Prop} {Q : VK} {ds : List D} {vs : List V} (R : RelH ca μ F h H) (r : VRs ca μ F vs ds)
    (p : PostG ca b μ F H h (.ok (.n (.lst ds)) h) Wx fun r μ1 F1 H1 _ => ∀ v, RR ca μ1 F1 H H1 v r → Q v H1) {l : Addr} (hl : H l = none) : Q (.ref l) (upd H l (.lst vs)) := by
  obtain ⟨e, R1, w⟩ := neNew (b := b) R hl (.lst vs) (o := .lst ds) fun H' q => ⟨vs, q, r⟩
  exact p _ _ _ e R1 _ w
theorem new_tup {b : Nat} {μ : List Addr} {F H : Hp} {h : Own} {Wx : Nat → Hp → Prop} {Q : VK} {ds : List D} {vs : List V} (R : RelH ca μ F h H) (r : VRs ca μ F vs ds)
    (p : PostG ca b μ F H h (.ok (.v (.tup ds)) h) Wx fun r μ1 F1 H1 _ => ∀ v, RR ca μ1 F1 H H1 v r → Q v H1) {l : Addr} (hl : H l = none) : Q (.ref l) (upd H l (.tup vs)) := by
  obtain ⟨e, R1⟩ := fzNew (b := b) R hl (.tup vs)
  exact p _ _ _ e R1 _ (show VR ca _ _ _ _ from .tup upd_same (e.vrs r))

def f1 : F2 := fI fun i j => .int (i + j)
theorem lk_addI : Lk2 ca f1 (rI0 fun i j => .int (i + j)) := lkI fun i j _ _ => .int _
def fAddT : F2
  | .tup xs, .tup ys, h => if xs.length + ys.length ≤ sizeLine then .ok (.v (.tup (xs ++ ys))) h else .stuck
  | _, _, _ => .stuck
theorem lk_addT {K : PySem.W.Frag} : Lk2 ca fAddT (rCatA K) := by
  intro b μ F H h Wx x y c d Q R V1 V2 _ p
  cases V1 with
  | tup e1 r1 =>
    rename_i a vs xs
    cases V2 with
    | tup e2 r2 =>
      rename_i a2 vs2 ys
      have p' : PostG ca b μ F H h (if xs.length + ys.length ≤ sizeLine then .ok (.v (.tup (xs ++ ys))) h else .stuck) Wx (fun r μ1 F1 H1 _ => ∀ v, RR ca μ1 F1 H H1 v r → Q v H1) := p
      by_cases hC : xs.length + ys.length ≤ sizeLine
      · rw [if_pos hC] at p'
        refine ⟨a, a2, vs, vs2, rfl, rfl, SqT.of (R.fz _ _ e1), SqT.of (R.fz _ _ e2), by rw [r1.length, r2.length]; exact hC, fun z => ?_, fun _ z => ?_, fun _ _ l hl => new_tup R (r1.append r2) p' hl⟩
        · subst z
          cases r1
          exact p'.ok R _ (show VR ca _ _ _ _ from .tup e2 r2)
        · subst z
          cases r2
          refine p'.ok R _ (show VR ca _ _ _ _ from .tup e1 ?_)
          rw [List.append_nil]; exact r1
      · rw [if_neg hC] at p'
        exact p'.elim
    | _ => exact (show False from p).elim
  | _ => exact (show False from p).elim
def fAddS : F2
  | .str x, .str y, h => if x.length + y.length ≤ sizeLine then .ok (.v (.str (x ++ y))) h else .stuck
  | _, _, _ => .stuck
theorem lk_addS : Lk2 ca fAddS (fun x y H Q => ∃ i j, x = .str i ∧ y = .str j ∧ i.length + j.length ≤ sizeLine ∧ Q (.str (i ++ j)) H) := by
  intro b μ F H h Wx x y c d Q R V1 V2 _ p
  cases V1 with
  | str i =>
    cases V2 with
    | str j =>
      have p' : PostG ca b μ F H h (if i.length + j.length ≤ sizeLine then .ok (.v (.str (i ++ j))) h else .stuck) Wx (fun r μ1 F1 H1 _ => ∀ v, RR ca μ1 F1 H H1 v r → Q v H1) := p
      by_cases hC : i.length + j.length ≤ sizeLine
      · rw [if_pos hC] at p'
        exact ⟨_, _, rfl, rfl, hC, p'.ok R _ (.str _)⟩
      · rw [if_neg hC] at p'
        exact p'.elim
    | _ => exact (show False from p).elim
  | _ => exact (show False from p).elim
def fAddL : F2 := fun x y h => match asL h x, asL h y with
  | some xs, some ys => if xs.length + ys.length ≤ sizeLine then .ok (.n (.lst (xs ++ ys))) h else .stuck
  | _, _ => .stuck
theorem lk_addL : Lk2 ca fAddL rCat := by
  intro b μ F H h Wx x y c d Q R V1 V2 _ p
  unfold fAddL at p
  cases e1 : asL h c with
  | none => simp only [e1] at p; exact p.elim
  | some xs =>
    cases e2 : asL h d with
    | none => simp only [e1, e2] at p; exact p.elim
    | some ys =>
      simp only [e1, e2] at p
      obtain ⟨a, vs, rfl, q1, r1⟩ := asL_ok R V1 e1
      obtain ⟨a2, vs2, rfl, q2, r2⟩ := asL_ok R V2 e2
      by_cases hC : xs.length + ys.length ≤ sizeLine
      · rw [if_pos hC] at p
        exact ⟨a, a2, vs, vs2, rfl, rfl, q1, q2, by rw [r1.length, r2.length]; exact hC, fun l hl => new_lst R (r1.append r2) p hl⟩
      · rw [if_neg hC] at p
        exact p.elim
def orF (f g : F2) : F2 := fun x y h => match f x y h with | .stuck => g x y h | z => z
def fAdd : F2 := orF f1 (orF fAddT (orF fAddS fAddL))
theorem op_addA : OpR X (binaryOp .Add) (fun x y H Q => rI0 (fun i j => .int (i + j)) x y H Q ∨ rCatA X.K x y H Q ∨ (∃ i j, x = .str i ∧ y = .str j ∧ i.length + j.length ≤ sizeLine ∧ Q (.str (i ++ j)) H) ∨ rCat x y H Q) := op_add.or (op_catA.or (op_add_str.or op_cat))
theorem lk_add {K : PySem.W.Frag} : Lk2 ca fAdd (fun x y H Q => rI0 (fun i j => .int (i + j)) x y H Q ∨ rCatA K x y H Q ∨ (∃ i j, x = .str i ∧ y = .str j ∧ i.length + j.length ≤ sizeLine ∧ Q (.str (i ++ j)) H) ∨ rCat x y H Q) :=
  lk_addI.or (lk_addT.or (lk_addS.or lk_addL))
def fRep : F2 := fun x y h => match asL h x, y with
  | some xs, .int k => if -(2 ^ 63) ≤ k ∧ k < 2 ^ 63 ∧ xs.length * k.toNat ≤ sizeLine then .ok (.n (.lst (List.replicate k.toNat xs).flatten)) h else .stuck
  | _, _ => .stuck
theorem VRs.rep {μ : List Addr} {F : Hp} {vs : List V} {ds : List D} (r : VRs ca μ F vs ds) : ∀ k : Nat, VRs ca μ F (List.replicate k vs).flatten (List.replicate k ds).flatten
  | 0 => .nil
  | k + 1 => by
    rw [List.replicate_succ, List.replicate_succ, List.flatten_cons, List.flatten_cons]
    exact r.append (VRs.rep r k)

/-! ### what is equal -/
/-- data without dicts and objects, to a depth -/
def toP : Nat → D → Option PyData
  | _, .non => some .none
  | _, .bl b => some (.bool b)
  | _, .int i => some (.int i)
  | _, .str s => if PyData.strOk s = true then some (.str s) else none
  | 0, _ => none
  | k + 1, .tup ds => (ds.mapM (toP k)).map .tuple
  | k + 1, .lst ds => (ds.mapM (toP k)).map .list
  | _, _ => none
def toPh (h : Own) : D → Option PyData
  | .ref n => match h[n]? with
    | some (.lst ds) => (ds.mapM (toP 7)).map .list
    | _ => none
  | d => toP 8 d
theorem shape_ok : ∀ (k : Nat) (d : D) (p : PyData), toP k d = some p → p.canLay0 = true ∧ p.depth ≤ k := by
  intro k
  induction k with
  | zero =>
    intro d p e
    cases d with
    | str s =>
      rw [toP] at e
      by_cases q : PyData.strOk s = true
      · rw [if_pos q] at e; cases e; simp [PyData.canLay0, PyData.depth, q]
      · rw [if_neg q] at e; cases e
    | _ => simp [toP] at e <;> subst e <;> simp [PyData.canLay0, PyData.depth]
  | succ k ih =>
    have all : ∀ (ds : List D) (ps : List PyData), ds.mapM (toP k) = some ps → PyData.canLayAll0 ps = true ∧ PyData.depthAll ps ≤ k := by
      intro ds
      induction ds with
      | nil => intro ps e; simp at e; subst e; simp [PyData.canLayAll0, PyData.depthAll]
      | cons d ds ih2 =>
        intro ps e
        rw [List.mapM_cons] at e
        cases e1 : toP k d with
        | none => rw [e1] at e; cases e
        | some p =>
          cases e2 : ds.mapM (toP k) with
          | none => rw [e1, e2] at e; cases e
          | some ps' =>
            rw [e1, e2] at e
            have e' : p :: ps' = ps := Option.some.inj e
            subst e'
            obtain ⟨a1, a2⟩ := ih d p e1
            obtain ⟨b1, b2⟩ := ih2 ps' e2
            refine ⟨by simp [PyData.canLayAll0, a1, b1], ?_⟩
            simp only [PyData.depthAll]
            omega
    intro d p e
    cases d with
    | tup ds =>
      rw [toP] at e
      obtain ⟨ps, e1, rfl⟩ := Option.map_eq_some_iff.mp e
      obtain ⟨a, b⟩ := all ds ps e1
      exact ⟨by simp only [PyData.canLay0]; exact a, by simp only [PyData.depth]; omega⟩
    | lst ds =>
      rw [toP] at e
      obtain ⟨ps, e1, rfl⟩ := Option.map_eq_some_iff.mp e
      obtain ⟨a, b⟩ := all ds ps e1
      exact ⟨by simp only [PyData.canLay0]; exact a, by simp only [PyData.depth]; omega⟩
    | str s =>
      rw [toP] at e
      by_cases q : PyData.strOk s = true
      · rw [if_pos q] at e; cases e; simp [PyData.canLay0, PyData.depth, q]
      · rw [if_neg q] at e; cases e
    | _ => simp [toP] at e <;> subst e <;> simp [PyData.canLay0, PyData.depth]
theorem shaped_of {k : Nat} {d : D} {p : PyData} (e : toP k d = some p) (hk : k ≤ 64) : SeqAt.shaped p = true := by
  obtain ⟨a, b⟩ := shape_ok k d p e
  show (p.canLay0 && decide (p.depth ≤ 64)) = true
  rw [a, Bool.true_and]
  exact decide_eq_true (by omega)
theorem dp_ok {K : PySem.W.Frag} {μ : List Addr} {F H : Hp} (hF : Same F H) : ∀ (k : Nat) (d : D) (v : V) (p : PyData), VR ca μ F v d → toP k d = some p → Dp K H v p := by
  intro k
  induction k with
  | zero =>
    intro d v p r e
    cases r with
    | str s =>
      rw [toP] at e
      by_cases q : PyData.strOk s = true
      · rw [if_pos q] at e; cases e; exact .str s
      · rw [if_neg q] at e; cases e
    | non => cases e; exact .non
    | bl => cases e; exact .bl _
    | int => cases e; exact .int _
    | _ => cases e
  | succ k ih =>
    have all : ∀ (ds : List D) (vs : List V) (ps : List PyData), VRs ca μ F vs ds → ds.mapM (toP k) = some ps → DpAll K H vs ps := by
      intro ds
      induction ds with
      | nil => intro vs ps r e; cases r; simp at e; subst e; exact .nil
      | cons d ds ih2 =>
        intro vs ps r e
        rw [List.mapM_cons] at e
        cases r with
        | cons r1 r2 =>
        cases e1 : toP k d with
        | none => rw [e1] at e; cases e
        | some p =>
          cases e2 : ds.mapM (toP k) with
          | none => rw [e1, e2] at e; cases e
          | some ps' =>
            rw [e1, e2] at e
            have e' : p :: ps' = ps := Option.some.inj e
            subst e'
            exact .cons (ih _ _ _ r1 e1) (ih2 _ _ r2 e2)
    intro d v p r e
    cases r with
    | str s =>
      rw [toP] at e
      by_cases q : PyData.strOk s = true
      · rw [if_pos q] at e; cases e; exact .str s
      · rw [if_neg q] at e; cases e
    | non => cases e; exact .non
    | bl => cases e; exact .bl _
    | int => cases e; exact .int _
    | tup q r1 =>
      rw [toP] at e
      obtain ⟨ps, e1, rfl⟩ := Option.map_eq_some_iff.mp e
      exact .tup (SqT.of (hF _ _ q)) (all _ _ _ r1 e1)
    | lst q r1 =>
      rw [toP] at e
      obtain ⟨ps, e1, rfl⟩ := Option.map_eq_some_iff.mp e
      exact .lst (SqL.of (hF _ _ q)) (all _ _ _ r1 e1)
    | _ => cases e
theorem dpAll_ok {K : PySem.W.Frag} {μ : List Addr} {F H : Hp} (hF : Same F H) (k : Nat) : ∀ (ds : List D) (vs : List V) (ps : List PyData), VRs ca μ F vs ds → ds.mapM (toP k) = some ps → DpAll K H vs ps := by
  intro ds
  induction ds with
  | nil => intro vs ps r e; cases r; simp at e; subst e; exact .nil
  | cons d ds ih2 =>
    intro vs ps r e
    rw [List.mapM_cons] at e
    cases r with
    | cons r1 r2 =>
    cases e1 : toP k d with
    | none => rw [e1] at e; cases e
    | some p =>
      cases e2 : ds.mapM (toP k) with
      | none => rw [e1, e2] at e; cases e
      | some ps' =>
        rw [e1, e2] at e
        have e' : p :: ps' = ps := Option.some.inj e
        subst e'
        exact .cons (dp_ok hF k _ _ _ r1 e1) (ih2 _ _ r2 e2)
theorem dph_ok {K : PySem.W.Frag} {μ : List Addr} {F H : Hp} {h : Own} (R : RelH ca μ F h H) {d : D} {v : V} {p : PyData} (r : VR ca μ F v d) (e : toPh h d = some p) : Dp K H v p ∧ SeqAt.shaped p = true := by
  cases r with
  | ref q =>
    rename_i a n
    unfold toPh at e
    dsimp only at e
    split at e
    · rename_i ds q2
      obtain ⟨ps, e1, rfl⟩ := Option.map_eq_some_iff.mp e
      obtain ⟨vs, q3, r3⟩ := R.ob n _ _ q q2
      exact ⟨.lst (SqL.of q3) (dpAll_ok R.fz 7 ds vs ps r3 e1), shaped_of (k := 8) (d := .lst ds) (by rw [toP, e1]; rfl) (by decide)⟩
    · cases e
  | non => exact ⟨dp_ok (ca := ca) (μ := μ) R.fz 8 _ _ _ .non e, shaped_of (k := 8) e (by decide)⟩
  | bl b => exact ⟨dp_ok (ca := ca) (μ := μ) R.fz 8 _ _ _ (.bl b) e, shaped_of (k := 8) e (by decide)⟩
  | int b => exact ⟨dp_ok (ca := ca) (μ := μ) R.fz 8 _ _ _ (.int b) e, shaped_of (k := 8) e (by decide)⟩
  | str b => exact ⟨dp_ok (ca := ca) (μ := μ) R.fz 8 _ _ _ (.str b) e, shaped_of (k := 8) e (by decide)⟩
  | tup a b => exact ⟨dp_ok R.fz 8 _ _ _ (.tup a b) e, shaped_of (k := 8) e (by decide)⟩
  | lst a b => exact ⟨dp_ok R.fz 8 _ _ _ (.lst a b) e, shaped_of (k := 8) e (by decide)⟩
  | dK a b c => cases e
  | dT a b c => cases e
  | obj a b c => cases e
  | ro a => cases e
def fEqN (neg : Bool) : F2 := fun x y h => match toPh h x, toPh h y with
  | some p, some q => .ok (.v (.bl (if neg then !PyData.eqv p q else PyData.eqv p q))) h
  | _, _ => .stuck
def fEq : F2 := fEqN false
def fNe : F2 := fEqN true
theorem lk_eq {K : PySem.W.Frag} : Lk2 ca fEq (rEqD K) := by
  intro b μ F H h Wx x y c d Q R V1 V2 _ p
  unfold fEq fEqN at p
  cases e1 : toPh h c with
  | none => simp only [e1] at p; exact p.elim
  | some u =>
    cases e2 : toPh h d with
    | none => simp only [e1, e2] at p; exact p.elim
    | some w =>
      simp only [e1, e2] at p
      exact ⟨u, w, (dph_ok R V1 e1).1, (dph_ok R V2 e2).1, (dph_ok (K := K) R V1 e1).2, (dph_ok (K := K) R V2 e2).2, p.ok R _ (.bl _)⟩
theorem lk_ne {K : PySem.W.Frag} : Lk2 ca fNe (rNeD K) := by
  intro b μ F H h Wx x y c d Q R V1 V2 _ p
  unfold fNe fEqN at p
  cases e1 : toPh h c with
  | none => simp only [e1] at p; exact p.elim
  | some u =>
    cases e2 : toPh h d with
    | none => simp only [e1, e2] at p; exact p.elim
    | some w =>
      simp only [e1, e2] at p
      exact ⟨u, w, (dph_ok R V1 e1).1, (dph_ok R V2 e2).1, (dph_ok (K := K) R V1 e1).2, (dph_ok (K := K) R V2 e2).2, p.ok R _ (.bl _)⟩
end
end Z
set_option Elab.async false
set_option linter.all false
set_option maxRecDepth 100000
set_option maxHeartbeats 1000000
/-! Z4: in, is, subscripts, slices, tests, displays, attributes. -/
namespace Z
open PySem PySem.Spec L2
section
variable {ca : Cn} {X : Cx} {W : WF} {pos : Pos}
/-! ### keys of dicts -/
def asK : D → Option Key
  | .int i => some (.inl i)
  | .str s => some (.inr s)
  | _ => none
def asKs : D → Option (List Key)
  | .tup ds => ds.mapM asK
  | _ => none
def getD {κ : Type} [DecidableEq κ] (kds : List (κ × D)) (k : κ) : Option D := (kds.find? fun p => decide (p.1 = k)).map (·.2)
def putD {κ : Type} [DecidableEq κ] (kds : List (κ × D)) (k : κ) (d : D) : List (κ × D) :=
  if (kds.any fun p => decide (p.1 = k)) = true then kds.map (fun p => if p.1 = k then (p.1, d) else p) else kds ++ [(k, d)]
section
variable {κ : Type} [DecidableEq κ] {μ : List Addr} {F : Hp}
theorem vr_get : ∀ {kvs : List (κ × V)} {kds : List (κ × D)} (k : κ), kvs.map (·.1) = kds.map (·.1) → VRs ca μ F (kvs.map (·.2)) (kds.map (·.2)) →
    (getD kds k = none ∧ valV kvs k = none) ∨ ∃ v d, getD kds k = some d ∧ valV kvs k = some v ∧ VR ca μ F v d
  | [], [], k, _, _ => .inl ⟨rfl, rfl⟩
  | [], _ :: _, _, e, _ => by cases e
  | _ :: _, [], _, e, _ => by cases e
  | (a, v) :: kvs, (b, d) :: kds, k, e, r => by
    simp only [List.map_cons, List.cons.injEq] at e
    obtain ⟨e1, e2⟩ := e
    subst e1
    cases r with
    | cons r1 r2 =>
      by_cases hk : a = k
      · exact .inr ⟨v, d, by simp [getD, hk], by simp [valV, hk], r1⟩
      · rcases vr_get (kvs := kvs) (kds := kds) k e2 r2 with ⟨h1, h2⟩ | ⟨v', d', h1, h2, h3⟩
        · exact .inl ⟨by simpa [getD, List.find?_cons, hk] using h1, by simpa [valV, List.find?_cons, hk] using h2⟩
        · exact .inr ⟨v', d', by simpa [getD, List.find?_cons, hk] using h1, by simpa [valV, List.find?_cons, hk] using h2, h3⟩
theorem vr_any : ∀ {kvs : List (κ × V)} {kds : List (κ × D)} (k : κ), kvs.map (·.1) = kds.map (·.1) → (kvs.any fun p => decide (p.1 = k)) = kds.any fun p => decide (p.1 = k) := fun {kvs kds} k e => by
  have : ∀ {β : Type} (l : List (κ × β)), (l.any fun p => decide (p.1 = k)) = (l.map (·.1)).any fun p => decide (p = k) := fun l => by rw [List.any_map]; rfl
  rw [this, this, e]
theorem vr_repl : ∀ {kvs : List (κ × V)} {kds : List (κ × D)} (k : κ) {v : V} {d : D}, VR ca μ F v d → kvs.map (·.1) = kds.map (·.1) → VRs ca μ F (kvs.map (·.2)) (kds.map (·.2)) →
    VRs ca μ F ((kvs.map fun p => if p.1 = k then (p.1, v) else p).map (·.2)) ((kds.map fun p => if p.1 = k then (p.1, d) else p).map (·.2))
  | [], [], k, _, _, _, _, _ => .nil
  | [], _ :: _, _, _, _, _, e, _ => by cases e
  | _ :: _, [], _, _, _, _, e, _ => by cases e
  | (a, v0) :: kvs, (b, d0) :: kds, k, v, d, rv, e, r => by
    simp only [List.map_cons, List.cons.injEq] at e
    obtain ⟨e1, e2⟩ := e
    subst e1
    cases r with
    | cons r1 r2 =>
      have ih := vr_repl (kvs := kvs) (kds := kds) k rv e2 r2
      by_cases hk : a = k
      · simp only [List.map_cons, hk, if_pos]
        exact .cons rv ih
      · simp only [List.map_cons, if_neg hk]
        exact .cons r1 ih
theorem vr_put {kvs : List (κ × V)} {kds : List (κ × D)} (k : κ) {v : V} {d : D} (rv : VR ca μ F v d) (e : kvs.map (·.1) = kds.map (·.1)) (r : VRs ca μ F (kvs.map (·.2)) (kds.map (·.2))) :
    (putK kvs k v).map (·.1) = (putD kds k d).map (·.1) ∧ VRs ca μ F ((putK kvs k v).map (·.2)) ((putD kds k d).map (·.2)) := by
  unfold putK putD
  rw [vr_any k e]
  by_cases h : (kds.any fun p => decide (p.1 = k)) = true
  · rw [if_pos h, if_pos h]
    refine ⟨?_, vr_repl k rv e r⟩
    have : ∀ {β : Type} (l : List (κ × β)) (y : β), (l.map fun p => if p.1 = k then (p.1, y) else p).map (·.1) = l.map (·.1) := fun l y => by
      rw [List.map_map]
      exact List.map_congr_left fun p _ => by
        show (if p.1 = k then (p.1, y) else p).1 = p.1
        split <;> rfl
    rw [this, this, e]
  · rw [if_neg h, if_neg h]
    rw [List.map_append, List.map_append, List.map_append, List.map_append, e]
    exact ⟨rfl, r.append (.cons rv .nil)⟩
end
theorem asK_ok {μ : List Addr} {F : Hp} {v : V} {d : D} {k : Key} (r : VR ca μ F v d) (e : asK d = some k) : v = kV k := by
  cases r <;> simp [asK] at e <;> subst e <;> rfl
theorem asKs_go {μ : List Addr} {F : Hp} : ∀ {vs : List V} {ds : List D} {ks : List Key}, VRs ca μ F vs ds → ds.mapM asK = some ks → vs = ks.map kV
  | _, _, ks, .nil, e => by simp at e; subst e; rfl
  | _, d :: ds, ks, .cons r t, e => by
    rw [List.mapM_cons] at e
    cases e1 : asK d with
    | none => rw [e1] at e; cases e
    | some k =>
      cases e2 : ds.mapM asK with
      | none => rw [e1, e2] at e; cases e
      | some ks' =>
        rw [e1, e2] at e
        have e' : k :: ks' = ks := Option.some.inj e
        subst e'
        rw [asK_ok r e1, asKs_go t e2]
        rfl
theorem asKs_ok {μ : List Addr} {F H : Hp} (hF : Same F H) {v : V} {d : D} {ks : List Key} (r : VR ca μ F v d) (e : asKs d = some ks) : ∃ b, v = .ref b ∧ H b = some (.tup (ks.map kV)) := by
  cases r with
  | tup q r1 => exact ⟨_, rfl, by rw [hF _ _ q, asKs_go r1 e]⟩
  | _ => cases e
/-- a dict's content -/
inductive DC where
  | k (kds : List (Key × D)) | t (kds : List (List Key × D))
def asD (h : Own) : D → Option DC
  | .dK k => some (.k k)
  | .dT k => some (.t k)
  | .ref n => match h[n]? with
    | some (.dK k) => some (.k k)
    | some (.dT k) => some (.t k)
    | some (.lkK k) => some (.k k)
    | some (.lkT k) => some (.t k)
    | _ => none
  | _ => none
theorem asD_ok {μ : List Addr} {F H : Hp} {h : Own} {v : V} {d : D} {c : DC} (R : RelH ca μ F h H) (V1 : VR ca μ F v d) (e : asD h d = some c) : ∃ a, v = .ref a ∧ match c with
    | .k kds => ∃ kvs : List (Key × V), Rd H a (.dK kvs) ∧ kvs.map (·.1) = kds.map (·.1) ∧ VRs ca μ F (kvs.map (·.2)) (kds.map (·.2))
    | .t kds => ∃ kvs : List (List Key × V), Rd H a (.dT kvs) ∧ kvs.map (·.1) = kds.map (·.1) ∧ VRs ca μ F (kvs.map (·.2)) (kds.map (·.2)) := by
  cases V1 with
  | dK q k r => cases e; exact ⟨_, rfl, _, .inl (R.fz _ _ q), k, r⟩
  | dT q k r => cases e; exact ⟨_, rfl, _, .inl (R.fz _ _ q), k, r⟩
  | ref q =>
    rename_i a n
    unfold asD at e
    dsimp only at e
    split at e
    · rename_i ds' q2
      cases e
      obtain ⟨kvs, w1, w2⟩ := R.ob n _ _ q q2
      exact ⟨a, rfl, kvs, .inl w1, w2⟩
    · rename_i ds' q2
      cases e
      obtain ⟨kvs, w1, w2⟩ := R.ob n _ _ q q2
      exact ⟨a, rfl, kvs, .inl w1, w2⟩
    · rename_i ds' q2
      cases e
      obtain ⟨od, kvs, w1, w2⟩ := R.ob n _ _ q q2
      exact ⟨a, rfl, kvs, .inr ⟨od, w1⟩, w2⟩
    · rename_i ds' q2
      cases e
      obtain ⟨od, kvs, w1, w2⟩ := R.ob n _ _ q q2
      exact ⟨a, rfl, kvs, .inr ⟨od, w1⟩, w2⟩
    · cases e
  | _ => cases e
/-- a dict's answer at a key: none: no answer; some none: not there -/
def askD (h : Own) (d k : D) : Option (Option D) := match asD h d with
  | some (.k kds) => (asK k).map (getD kds)
  | some (.t kds) => (asKs k).map (getD kds)
  | none => none
def ROpt (ca : Cn) (μ : List Addr) (F : Hp) (ov : Option V) : Option D → Prop
  | none => ov = none
  | some d => ∃ w, ov = some w ∧ VR ca μ F w d
theorem askD_ok {μ : List Addr} {F H : Hp} {h : Own} {v y : V} {d k : D} {o : Option D} (R : RelH ca μ F h H) (V1 : VR ca μ F v d) (V2 : VR ca μ F y k) (e : askD h d k = some o) :
    ∃ a ov, v = .ref a ∧ DGet H a y ov ∧ ROpt ca μ F ov o := by
  unfold askD at e
  cases e1 : asD h d with
  | none => simp only [e1] at e; cases e
  | some c =>
    obtain ⟨a, rfl, hc⟩ := asD_ok R V1 e1
    cases c with
    | k kds =>
      simp only [e1] at e
      obtain ⟨kvs, q1, q2, q3⟩ := hc
      obtain ⟨kk, ek, rfl⟩ := Option.map_eq_some_iff.mp e
      have ey := asK_ok V2 ek
      subst ey
      refine ⟨a, valV kvs kk, rfl, .inl ⟨kvs, kk, q1, rfl, rfl⟩, ?_⟩
      rcases vr_get kk q2 q3 with ⟨h1, h2⟩ | ⟨v', d', h1, h2, h3⟩
      · rw [h1]; exact h2
      · rw [h1]; exact ⟨v', h2, h3⟩
    | t kds =>
      simp only [e1] at e
      obtain ⟨kvs, q1, q2, q3⟩ := hc
      obtain ⟨kk, ek, rfl⟩ := Option.map_eq_some_iff.mp e
      obtain ⟨b, rfl, hb⟩ := asKs_ok R.fz V2 ek
      refine ⟨a, valV kvs kk, rfl, .inr ⟨kvs, kk, b, q1, rfl, hb, rfl⟩, ?_⟩
      rcases vr_get kk q2 q3 with ⟨h1, h2⟩ | ⟨v', d', h1, h2, h3⟩
      · rw [h1]; exact h2
      · rw [h1]; exact ⟨v', h2, h3⟩
/-! ### in, not in -/
def flatD : D → Bool
  | .non => true
  | .bl _ => true
  | .int _ => true
  | .str _ => true
  | _ => false
def eqD : D → D → Bool
  | .non, .non => true
  | .bl a, .bl b => a == b
  | .bl a, .int b => (if a then 1 else 0) == b
  | .int a, .bl b => a == (if b then 1 else 0)
  | .int a, .int b => a == b
  | .str a, .str b => a == b
  | _, _ => false
theorem flat_ok {μ : List Addr} {F : Hp} {v : V} {d : D} (r : VR ca μ F v d) (e : flatD d = true) : flatV v = true := by
  cases r <;> first | rfl | (exact (Bool.false_ne_true e).elim)
theorem eqD_ok {μ : List Addr} {F : Hp} {v w : V} {d c : D} (r : VR ca μ F v d) (r2 : VR ca μ F w c) (e : flatD d = true) (e2 : flatD c = true) : eqV v w = eqD d c := by
  cases r <;> first | (exact (Bool.false_ne_true e).elim) | (cases r2 <;> first | rfl | (exact (Bool.false_ne_true e2).elim))
theorem flats_ok {μ : List Addr} {F : Hp} : ∀ {vs : List V} {ds : List D}, VRs ca μ F vs ds → ds.all flatD = true → vs.all flatV = true
  | _, _, .nil, _ => rfl
  | _, _, .cons r t, e => by
    rw [List.all_cons, Bool.and_eq_true] at e ⊢
    exact ⟨flat_ok r e.1, flats_ok t e.2⟩
theorem inD_ok {μ : List Addr} {F : Hp} {v : V} {d : D} (r : VR ca μ F v d) (e : flatD d = true) : ∀ {vs : List V} {ds : List D}, VRs ca μ F vs ds → ds.all flatD = true → inV v vs = ds.any fun y => eqD y d
  | _, _, .nil, _ => rfl
  | _, _, .cons r1 t, e1 => by
    rw [List.all_cons, Bool.and_eq_true] at e1
    unfold inV
    rw [List.any_cons, List.any_cons, eqD_ok r1 r e1.1 e, ← inD_ok r e t e1.2]
    rfl
/-- flat data in a list or tuple of such -/
def fInQ (neg : Bool) : F2 := fun x y h => match asQ h y with
  | some ds => if flatD x = true ∧ ds.all flatD = true then .ok (.v (.bl (if neg then !(ds.any fun z => eqD z x) else ds.any fun z => eqD z x))) h else .stuck
  | none => .stuck
theorem lk_inQ {K : PySem.W.Frag} (neg : Bool) : Lk2 ca (fInQ neg) (rIn K neg) := by
  intro b μ F H h Wx x y c d Q R V1 V2 _ p
  unfold fInQ at p
  cases e1 : asQ h d with
  | none => simp only [e1] at p; exact p.elim
  | some ds =>
    simp only [e1] at p
    obtain ⟨a, vs, rfl, q, r⟩ := asQ_ok R V2 e1
    by_cases hC : flatD c = true ∧ ds.all flatD = true
    · rw [if_pos hC] at p
      refine ⟨a, vs, rfl, SqQ q, flat_ok V1 hC.1, flats_ok r hC.2, ?_⟩
      rw [inD_ok V1 hC.1 r hC.2]
      exact p.ok R _ (.bl _)
    · rw [if_neg hC] at p
      exact p.elim
/-- any data in a list -/
def fInD (neg : Bool) : F2 := fun x y h => match toPh h x, toPh h y with
  | some p, some (.list ps) => .ok (.v (.bl (if neg then !(ps.any fun z => PyData.eqv z p) else ps.any fun z => PyData.eqv z p))) h
  | _, _ => .stuck
theorem lk_inD {K : PySem.W.Frag} : Lk2 ca (fInD false) (rInD K) := by
  intro b μ F H h Wx x y c d Q R V1 V2 _ p
  unfold fInD at p
  split at p
  · rename_i u ps e1 e2
    exact ⟨u, ps, (dph_ok R V1 e1).1, (dph_ok R V2 e2).1, (dph_ok (K := K) R V1 e1).2, (dph_ok (K := K) R V2 e2).2, p.ok R _ (.bl _)⟩
  · exact p.elim
theorem lk_notInD {K : PySem.W.Frag} : Lk2 ca (fInD true) (rNotInD K) := by
  intro b μ F H h Wx x y c d Q R V1 V2 _ p
  unfold fInD at p
  split at p
  · rename_i u ps e1 e2
    exact ⟨u, ps, (dph_ok R V1 e1).1, (dph_ok R V2 e2).1, (dph_ok (K := K) R V1 e1).2, (dph_ok (K := K) R V2 e2).2, p.ok R _ (.bl _)⟩
  · exact p.elim
/-- a key in a dict -/
def fInK (neg : Bool) : F2 := fun x y h => match askD h y x with
  | some o => .ok (.v (.bl (if neg then !o.isSome else o.isSome))) h
  | none => .stuck
def rInK (neg : Bool) : R2 := fun y x H Q => ∃ a o, x = .ref a ∧ DGet H a y o ∧ Q (.bl (if neg then !o.isSome else o.isSome)) H
theorem op_inK (hu : X.A.units + 1 < cLine) : OpR X (compareOp .In) (rInK false) := by
  intro pins s σ H x y v u Q I rx ry ⟨a, o, e, g, q⟩
  subst e
  cases ry
  exact d_in hu I g rx fun s' I' => ⟨.bl o.isSome, H, I', rfl, q⟩
theorem op_notInK (hu : X.A.units + 1 < cLine) : OpR X (compareOp .NotIn) (rInK true) := by
  intro pins s σ H x y v u Q I rx ry ⟨a, o, e, g, q⟩
  subst e
  cases ry
  exact d_notIn hu I g rx fun s' I' => ⟨.bl (!o.isSome), H, I', rfl, q⟩
theorem lk_inK (neg : Bool) : Lk2 ca (fInK neg) (rInK neg) := by
  intro b μ F H h Wx x y c d Q R V1 V2 _ p
  unfold fInK at p
  cases e1 : askD h d c with
  | none => simp only [e1] at p; exact p.elim
  | some o =>
    simp only [e1] at p
    obtain ⟨a, ov, rfl, g, ho⟩ := askD_ok R V2 V1 e1
    refine ⟨a, ov, rfl, g, ?_⟩
    have : ov.isSome = o.isSome := by
      cases o with
      | none => rw [show ov = none from ho]; rfl
      | some d => obtain ⟨w, e, _⟩ := ho; rw [e]; rfl
    rw [this]
    exact p.ok R _ (.bl _)
def fIn : F2 := orF (fInQ false) (orF (fInK false) (fInD false))
def fNotIn : F2 := orF (fInQ true) (orF (fInK true) (fInD true))
theorem op_in (hu : X.A.units + 65 < cLine) : OpR X (compareOp .In) (fun x y H Q => rIn X.K false x y H Q ∨ rInK false x y H Q ∨ rInD X.K x y H Q) := op_in_seq.or ((op_inK (by omega)).or (op_inD hu))
theorem op_notIn (hu : X.A.units + 65 < cLine) : OpR X (compareOp .NotIn) (fun x y H Q => rIn X.K true x y H Q ∨ rInK true x y H Q ∨ rNotInD X.K x y H Q) := op_notIn_seq.or ((op_notInK (by omega)).or (op_notInD hu))
theorem lk_in {K : PySem.W.Frag} : Lk2 ca fIn (fun x y H Q => rIn K false x y H Q ∨ rInK false x y H Q ∨ rInD K x y H Q) := (lk_inQ false).or ((lk_inK false).or lk_inD)
theorem lk_notIn {K : PySem.W.Frag} : Lk2 ca fNotIn (fun x y H Q => rIn K true x y H Q ∨ rInK true x y H Q ∨ rNotInD K x y H Q) := (lk_inQ true).or ((lk_inK true).or lk_notInD)
end
end Z
set_option Elab.async false
set_option linter.all false
set_option maxRecDepth 100000
set_option maxHeartbeats 1000000
/-! Z5: is, subscripts, slices, tests, displays, attributes. -/
namespace Z
open PySem PySem.Spec L2
section
variable {ca : Cn} {X : Cx} {W : WF} {pos : Pos} {e a b c : Expr}
/-! ### one value -/
abbrev F1 := D → Own → Res R
def Lk1 (ca : Cn) (f : F1) (r : V → Hp → VK → Prop) : Prop := ∀ (b : Nat) (μ : List Addr) (F H : Hp) (h : Own) (Wx : Nat → Hp → Prop) (x : V) (c : D) (Q : VK), RelH ca μ F h H → VR ca μ F x c → b ≤ h.length →
  PostG ca b μ F H h (f c h) Wx (fun r μ1 F1 H1 _ => ∀ v, RR ca μ1 F1 H H1 v r → Q v H1) → r x H Q
def e1 (f : F1) (a : ED) : EX := fun τ h => (a τ h).bind fun x h1 => f x h1
theorem lk_un {f : F1} {r : V → Hp → VK → Prop} {ta : ED} (lk : Lk1 ca f r) : ∀ σ H Q, rdE ca W (e1 f ta) σ H Q → rdD ca W ta σ H fun x H1 => r x H1 Q := fun σ H Q ⟨μ, F, τ, h, A, p⟩ =>
  ⟨μ, F, τ, h, A, p.bind.imp fun c μ1 F1 H1 h1 E1 R1 q v V => lk τ.b μ1 F1 H1 h1 _ v c Q R1 V (Nat.le_trans A.bl (E1.len A.rel R1)) (q.imp fun r μ3 F3 H3 h3 E3 R3 q3 u V3 => q3 u (RR.back E1 V3))⟩
theorem se_un {op : UnaryOp} {f : F1} {r : V → Hp → VK → Prop} {ta : ED} (ho : UnR X (unaryOp op) r) (lk : Lk1 ca f r) (ha : SD ca X W a ta) : SE ca X W (.UnaryOp op a pos) (e1 f ta) := PE.imp (pe_un ho ha) (lk_un lk)
def fNeg : F1
  | .int i, h => .ok (.v (.int (-i))) h
  | _, _ => .stuck
def fInv : F1
  | .int i, h => .ok (.v (.int (Builtin.bitNot i))) h
  | _, _ => .stuck
theorem lk_neg : Lk1 ca fNeg (rU fun i => .int (-i)) := by
  intro b μ F H h Wx x c Q R V1 _ p
  cases V1 with
  | int i => exact ⟨i, rfl, p.ok R _ (.int _)⟩
  | _ => exact (show False from p).elim
theorem lk_inv : Lk1 ca fInv (rU fun i => .int (Builtin.bitNot i)) := by
  intro b μ F H h Wx x c Q R V1 _ p
  cases V1 with
  | int i => exact ⟨i, rfl, p.ok R _ (.int _)⟩
  | _ => exact (show False from p).elim
/-- not x, of a bool, as a value -/
def fNotB : F1
  | .bl i, h => .ok (.v (.bl (!i))) h
  | _, _ => .stuck
theorem se_not {ta : ED} (ha : SD ca X W a ta) : SE ca X W (.UnaryOp .Not a pos) (e1 fNotB ta) := PE.imp (pe_not ha) (lk_un (r := fun x H1 Q => ∃ c, x = .bl c ∧ Q (.bl (!c)) H1) (by
  intro b μ F H h Wx x c Q R V1 _ p
  cases V1 with
  | bl i => exact ⟨i, rfl, p.ok R _ (.bl _)⟩
  | _ => exact (show False from p).elim))
/-- is None, is not None -/
def isN : D → Bool
  | .non => true
  | _ => false
def fIsN (neg : Bool) : F1 := fun x h => .ok (.v (.bl (if neg then !isN x else isN x))) h
theorem isN_ok {μ : List Addr} {F : Hp} {v : V} {d : D} (r : VR ca μ F v d) : decide (v = .non) = isN d := by
  cases r <;> first | rfl | exact decide_eq_false (fun z => nomatch z)
theorem se_isN {j pos'} {ta : ED} (ha : SD ca X W a ta) : SE ca X W (.Compare a [.Is] [.Constant .none j pos'] pos) (e1 (fIsN false) ta) := PE.imp (pe_cmp (pc_isN ha)) (lk_un (r := fun x H1 Q => Q (.bl (decide (x = .non))) H1) (by
  intro b μ F H h Wx x c Q R V1 _ p
  show Q _ _
  rw [isN_ok V1]
  exact p.ok R _ (.bl _)))
theorem se_notN {j pos'} {ta : ED} (ha : SD ca X W a ta) : SE ca X W (.Compare a [.IsNot] [.Constant .none j pos'] pos) (e1 (fIsN true) ta) := PE.imp (pe_cmp (pc_notN ha)) (lk_un (r := fun x H1 Q => Q (.bl (!decide (x = .non))) H1) (by
  intro b μ F H h Wx x c Q R V1 _ p
  show Q _ _
  rw [isN_ok V1]
  exact p.ok R _ (.bl _)))
/-! ### subscripts -/
def fIxQ : F2 := fun x y h => match asQ h x, y with
  | some ds, .int i => match atI ds i with
    | some d => .ok (.v d) h
    | none => .stuck
  | _, _ => .stuck
theorem VRs.atI {μ : List Addr} {F : Hp} {vs : List V} {ds : List D} {i : Int} {d : D} (r : VRs ca μ F vs ds) (e : L2.atI ds i = some d) : ∃ v, L2.atI vs i = some v ∧ VR ca μ F v d := by
  unfold L2.atI at e ⊢
  rw [r.length]
  obtain ⟨j, ej, ed⟩ := Option.bind_eq_some_iff.mp e
  rw [ej]
  exact r.get ed
theorem lk_ixQ {K : PySem.W.Frag} : Lk2 ca fIxQ (fun x y H Q => rIxL K x y H Q ∨ rIxT K x y H Q) := by
  intro b μ F H h Wx x y c d Q R V1 V2 _ p
  unfold fIxQ at p
  cases e1 : asQ h c with
  | none => simp only [e1] at p; exact p.elim
  | some ds =>
    obtain ⟨a, vs, rfl, q, r⟩ := asQ_ok R V1 e1
    cases V2 with
    | int i =>
      simp only [e1] at p
      cases e2 : L2.atI ds i with
      | none => simp only [e2] at p; exact p.elim
      | some z =>
        simp only [e2] at p
        obtain ⟨v, hv, rv⟩ := r.atI e2
        rcases q with q | q
        · exact .inl ⟨a, vs, i, v, rfl, rfl, SqL.of q, hv, p.ok R _ rv⟩
        · exact .inr ⟨a, vs, i, v, rfl, rfl, SqT.of q, hv, p.ok R _ rv⟩
    | _ => simp only [e1] at p; exact p.elim
def fIxS : F2
  | .str z, .int i, h => if z.length ≤ sizeLine then match atI z.cps.toList i with
    | some c => .ok (.v (.str ⟨#[c]⟩)) h
    | none => .stuck else .stuck
  | _, _, _ => .stuck
theorem lk_ixS : Lk2 ca fIxS rIxS := by
  intro b μ F H h Wx x y c d Q R V1 V2 _ p
  cases V1 with
  | str z =>
    cases V2 with
    | int i =>
      have p' : PostG ca b μ F H h (if z.length ≤ sizeLine then match atI z.cps.toList i with | some c => .ok (.v (.str ⟨#[c]⟩)) h | none => .stuck else .stuck) Wx (fun r μ1 F1 H1 _ => ∀ v, RR ca μ1 F1 H H1 v r → Q v H1) := p
      by_cases hC : z.length ≤ sizeLine
      · rw [if_pos hC] at p'
        cases e2 : atI z.cps.toList i with
        | none => rw [e2] at p'; exact p'.elim
        | some c =>
          rw [e2] at p'
          exact ⟨z, i, c, rfl, rfl, hC, e2, p'.ok R _ (.str _)⟩
      · rw [if_neg hC] at p'
        exact p'.elim
    | _ => exact (show False from p).elim
  | _ => exact (show False from p).elim
def fIxD : F2 := fun x y h => match askD h x y with
  | some (some d) => .ok (.v d) h
  | _ => .stuck
def rIxD : R2 := fun x y H Q => ∃ a v, x = .ref a ∧ DGet H a y (some v) ∧ Q v H
open PyProof.Rows in
theorem ix_dict (hu : X.A.units + 1 < cLine) : IxR X rIxD := by
  intro value slice pins s σ H x y v u Q I rx ry ⟨a, z, e, g, q⟩ hs
  subst e
  obtain rfl : v = Value.ref a := rx
  have hT := dict_typeIs I g
  unfold subscriptTail
  refine wpAny_bind ?_
  rw [getitemInPython_of_ne hT.not_modules]
  refine wpAny_bind (wpAny_specialOf hT PySem.F.slot_dict_getitem.lookup ?_)
  have h₂ : wpAny (model X.prog X.w) X.A (getItem (.ref a) u) (EP X pins σ Q) X.xe s := d_getItem hu I g ry fun w' s' I' rw' => ⟨z, H, I', rw', q⟩
  have fin : wpAny (model X.prog X.w) X.A (subscripted slice false (.ref a) u) (fun r s₃ => wpAny (model X.prog X.w) X.A (letTemporaryGo value (.ref a) r >>= fun _ => pure r) (EP X pins σ Q) X.xe s₃) X.xe s := by
    rw [hs]
    exact wpAny_operating (wpAny_mono h₂ (fun r s₃ h₃ => wpAny_bind (wpAny_letTemporaryGo (wpAny_pure h₃))) fun _ _ x => x)
  first
    | exact wpAny_pure (wpAny_bind fin)
    | exact wpAny_bind (wpAny_pure (wpAny_bind fin))
    | exact wpAny_bind fin
theorem lk_ixD : Lk2 ca fIxD rIxD := by
  intro b μ F H h Wx x y c d Q R V1 V2 _ p
  unfold fIxD at p
  split at p
  · rename_i z e1
    obtain ⟨a, ov, rfl, g, w, e, r⟩ := askD_ok R V1 V2 e1
    subst e
    exact ⟨a, w, rfl, g, p.ok R _ r⟩
  · exact p.elim
def fIx : F2 := orF fIxQ (orF fIxS fIxD)
theorem ix_any (hu : X.A.units + 1 < cLine) : IxR X (fun x y H Q => (rIxL X.K x y H Q ∨ rIxT X.K x y H Q) ∨ rIxS x y H Q ∨ rIxD x y H Q) := (ix_list.or ix_tup).or (ix_str.or (ix_dict hu))
theorem lk_ix {K : PySem.W.Frag} : Lk2 ca fIx (fun x y H Q => (rIxL K x y H Q ∨ rIxT K x y H Q) ∨ rIxS x y H Q ∨ rIxD x y H Q) := lk_ixQ.or (lk_ixS.or lk_ixD)
theorem se_ix {ta tb : ED} (hu : X.A.units + 1 < cLine) (ha : SD ca X W a ta) (hb : SD ca X W b tb) (hs : PlainIx b) : SE ca X W (.Subscript a b pos) (e2 fIx ta tb) := PE.imp (pe_ix (ix_any hu) ha hb hs) (lk_op lk_ix)
end
end Z
set_option Elab.async false
set_option linter.all false
set_option maxRecDepth 100000
set_option maxHeartbeats 1000000
/-! Z6: slices, tests, displays, attributes. -/
namespace Z
open PySem PySem.Spec L2
section
variable {ca : Cn} {X : Cx} {W : WF} {pos : Pos} {e a b c : Expr}
/-! ### slices -/
abbrev EO := Fm → Own → Res (Option Int)
def oNone : EO := fun _ h => .ok none h
def oSome (x : ED) : EO := fun τ h => (x τ h).bind fun d h1 => match d with
  | .int i => .ok (some i) h1
  | _ => .stuck
def rdO (ca : Cn) (W : WF) (x : EO) : TO := fun σ H Q => ∃ μ F τ h, At ca μ F τ h σ H ∧ PostG ca τ.b μ F H h (x τ h) (wx ca W σ) fun o _ _ H1 _ => Q o H1
def SO (ca : Cn) (X : Cx) (W : WF) (e : Option Expr) (x : EO) : Prop := PO X e (rdO ca W x)
theorem so_none : SO ca X W none oNone := ⟨fun pins s σ H Q I ⟨μ, F, τ, h, A, p⟩ => po_none.run pins s σ H Q I (p.ok A.rel)⟩
theorem so_some {x : ED} (hx : SD ca X W e x) : SO ca X W (some e) (oSome x) := ⟨fun pins s σ H Q I ⟨μ, F, τ, h, A, p⟩ => (po_some hx).run pins s σ H Q I ⟨μ, F, τ, h, A, p.bind.imp fun d μ1 F1 H1 h1 E1 R1 q v V => by
  cases V with
  | int i => exact ⟨i, rfl, q.ok R1⟩
  | _ => exact (show False from q).elim⟩⟩
def cutD (xs : List D) (lo hi : Option Int) : List D := (xs.drop (HT.sIx xs.length 0 lo)).take (HT.sIx xs.length xs.length hi - HT.sIx xs.length 0 lo)
theorem VRs.cut {μ : List Addr} {F : Hp} {vs : List V} {ds : List D} (r : VRs ca μ F vs ds) (lo hi : Option Int) : VRs ca μ F (cutV vs lo hi) (cutD ds lo hi) := by
  unfold cutV cutD
  rw [r.length]
  exact (r.drop _).take _
def fSl (x : D) (lo hi : Option Int) (h : Own) : Res R := match x with
  | .tup ds => .ok (.v (.tup (cutD ds lo hi))) h
  | x => match asL h x with
    | some ds => .ok (.n (.lst (cutD ds lo hi))) h
    | none => .stuck
def eSl (x : ED) (lo hi : EO) : EX := fun τ h => (x τ h).bind fun d h1 => (lo τ h1).bind fun l h2 => (hi τ h2).bind fun u h3 => fSl d l u h3
theorem sIx_of (n d : Nat) (o : Option Int) : True := trivial
theorem se_sl {x : ED} {lo hi : EO} {el eh : Option Expr} {p2 : Pos} (hx : SD ca X W e x) (hl : SO ca X W el lo) (hh : SO ca X W eh hi) : SE ca X W (.Subscript e (.Slice el eh none p2) pos) (eSl x lo hi) := by
  refine PE.imp (pe_slice (sl_tupA.or sl_list) hx hl hh) fun σ H Q ⟨μ, F, τ, h, A, p⟩ => ⟨μ, F, τ, h, A, p.bind.imp fun d μ1 F1 H1 h1 E1 R1 q v V => ⟨μ1, F1, τ, h1, A.ext E1 R1, q.bind.imp fun l μ2 F2 H2 h2 E2 R2 q2 => ⟨μ2, F2, τ, h2, (A.ext E1 R1).ext E2 R2, q2.bind.imp fun u μ3 F3 H3 h3 E3 R3 q3 => ?_⟩⟩⟩
  have q4 : PostG ca τ.b μ3 F3 H3 h3 (fSl d l u h3) (wx ca W σ) fun r μ4 F4 H4 _ => ∀ v, RR ca μ4 F4 H3 H4 v r → Q v H4 := q3.imp fun r μ4 F4 H4 h4 E4 R4 q5 w V5 => q5 w (RR.back E1 (RR.back E2 (RR.back E3 V5)))
  have V3 := E3.vr (E2.vr V)
  unfold fSl at q4
  cases V3 with
  | @tup a vs ds qt r =>
    dsimp only at q4
    refine .inl ⟨a, vs, rfl, SqT.of (R3.fz _ _ qt), fun hw => ?_, fun _ l hl => new_tup R3 (r.cut _ _) q4 hl⟩
    have ew : cutD ds l u = ds := by
      unfold cutD
      rw [← r.length, hw.1, hw.2, r.length]
      simp
    rw [ew] at q4
    exact q4.ok R3 _ (show VR ca _ _ _ _ from .tup qt r)
  | _ =>
    dsimp only at q4
    split at q4
    · rename_i ds e1
      obtain ⟨a, vs, ev, qq, r⟩ := asL_ok R3 (E3.vr (E2.vr V)) e1
      exact .inr ⟨a, vs, ev, SqL.of qq, fun l hl => new_lst R3 (r.cut _ _) q4 hl⟩
    · exact q4.elim
/-! ### tests -/
/-- an outcome that is True or False -/
def eTB (x : EX) : EB := fun τ h => (x τ h).bind fun r h1 => match r with
  | .v (.bl k) => .ok k h1
  | _ => .stuck
theorem tb_rd {x : EX} {σ : L2.St} {H : Hp} {Q : Bool → Hp → Prop} : rdB ca W (eTB x) σ H Q → rdE ca W x σ H fun x H' => ∃ k, x = .bl k ∧ Q k H' := fun ⟨μ, F, τ, h, A, p⟩ => ⟨μ, F, τ, h, A, p.bind.imp fun r μ1 F1 H1 h1 E1 R1 q v V => by
  cases r with
  | n o => exact (show False from q).elim
  | v d =>
    have V' : VR ca μ1 F1 v d := V
    cases V' with
    | bl k => exact ⟨k, rfl, q.ok R1⟩
    | _ => exact (show False from q).elim⟩
theorem sb_cmp {op : CmpOp} {f : F2} {r : R2} {ta tb : ED} (ho : OpR X (compareOp op) r) (lk : Lk2 ca f r) (ha : SD ca X W a ta) (hb : SD ca X W b tb) (hm : behindInMarks op b = false) : SB ca X W (.Compare a [op] [b] pos) (eTB (e2 f ta tb)) :=
  PT.imp (pt_cmpR ho ha hb hm) fun σ H Q q => lk_op lk σ H _ (tb_rd q)
theorem sb_isN {j pos'} {ta : ED} (ha : SD ca X W a ta) : SB ca X W (.Compare a [.Is] [.Constant .none j pos'] pos) (eTB (e1 (fIsN false) ta)) := PT.imp (pt_cmp (pc_isN ha)) fun σ H Q q => lk_un (r := fun x H1 Q => Q (.bl (decide (x = .non))) H1) (by
  intro b μ F H h Wx x c Q R V1 _ p
  show Q _ _
  rw [isN_ok V1]
  exact p.ok R _ (.bl _)) σ H _ (tb_rd q)
theorem sb_notN {j pos'} {ta : ED} (ha : SD ca X W a ta) : SB ca X W (.Compare a [.IsNot] [.Constant .none j pos'] pos) (eTB (e1 (fIsN true) ta)) := PT.imp (pt_cmp (pc_notN ha)) fun σ H Q q => lk_un (r := fun x H1 Q => Q (.bl (!decide (x = .non))) H1) (by
  intro b μ F H h Wx x c Q R V1 _ p
  show Q _ _
  rw [isN_ok V1]
  exact p.ok R _ (.bl _)) σ H _ (tb_rd q)
/-- a op b op' c -/
def eCh (f g : F2) (a b c : ED) : EX := fun τ h => (a τ h).bind fun x h1 => (b τ h1).bind fun y h2 => (f x y h2).bind fun r h3 => match r with
  | .v (.bl true) => (c τ h3).bind fun z h4 => g y z h4
  | .v (.bl false) => .ok (.v (.bl false)) h3
  | _ => .stuck
theorem ch_rd {f g : F2} {r r' : R2} {ta tb tc : ED} (lk : Lk2 ca f r) (lk' : Lk2 ca g r') {σ : L2.St} {H : Hp} {Q : VK} : rdE ca W (eCh f g ta tb tc) σ H Q → tChain r r' (rdD ca W ta) (rdD ca W tb) (rdD ca W tc) σ H Q := fun ⟨μ, F, τ, h, A, p⟩ =>
  ⟨μ, F, τ, h, A, p.bind.imp fun d μ1 F1 H1 h1 E1 R1 q v V => ⟨μ1, F1, τ, h1, A.ext E1 R1, q.bind.imp fun d2 μ2 F2 H2 h2 E2 R2 q2 v2 V2 => by
    have A2 := (A.ext E1 R1).ext E2 R2
    refine lk τ.b μ2 F2 H2 h2 (wx ca W σ) v v2 d d2 _ R2 (E2.vr V) V2 A2.bl (q2.bind.imp fun r3 μ3 F3 H3 h3 E3 R3 q3 v3 V3 => ?_)
    cases r3 with
    | n o => exact (show False from q3).elim
    | v d3 =>
      have V' : VR ca μ3 F3 v3 d3 := V3
      cases V' with
      | bl k =>
        refine ⟨k, rfl, ?_⟩
        cases k with
        | false => exact q3.ok R3 (.bl false) (show VR ca _ _ _ _ from .bl false)
        | true =>
          have A3 := A2.ext E3 R3
          refine ⟨μ3, F3, τ, h3, A3, q3.bind.imp fun d4 μ4 F4 H4 h4 E4 R4 q4 v4 V4 => ?_⟩
          exact lk' τ.b μ4 F4 H4 h4 (wx ca W σ) v2 v4 d2 d4 Q R4 (E4.vr (E3.vr V2)) V4 (A3.ext E4 R4).bl (q4.imp fun r5 μ5 F5 H5 h5 E5 R5 q5 u V5 => q5 u (RR.back E1 (RR.back E2 (RR.back E3 (RR.back E4 V5)))))
      | _ => exact (show False from q3).elim⟩⟩
theorem se_ch {op op' : CmpOp} {f g : F2} {r r' : R2} {ta tb tc : ED} (ho : OpR X (compareOp op) r) (ho' : OpR X (compareOp op') r') (lk : Lk2 ca f r) (lk' : Lk2 ca g r') (ha : SD ca X W a ta) (hb : SD ca X W b tb) (hc : SD ca X W c tc)
    (hm : lastMarks [op, op'] [b, c] = false) : SE ca X W (.Compare a [op, op'] [b, c] pos) (eCh f g ta tb tc) := PE.imp (pe_chain ho ho' ha hb hc hm) fun σ H Q q => ch_rd lk lk' q
theorem sb_ch {op op' : CmpOp} {f g : F2} {r r' : R2} {ta tb tc : ED} (ho : OpR X (compareOp op) r) (ho' : OpR X (compareOp op') r') (lk : Lk2 ca f r) (lk' : Lk2 ca g r') (ha : SD ca X W a ta) (hb : SD ca X W b tb) (hc : SD ca X W c tc)
    (hm : lastMarks [op, op'] [b, c] = false) : SB ca X W (.Compare a [op, op'] [b, c] pos) (eTB (eCh f g ta tb tc)) := PT.imp (pt_chain ho ho' ha hb hc hm) fun σ H Q q => ch_rd lk lk' (tb_rd q)
/-- a value's truth -/
def tru (h : Own) : D → Option Bool
  | .non => some false
  | .bl b => some b
  | .int i => some (i != 0)
  | .str s => if s.length ≤ sizeLine then some ((s.length : Int) != 0) else none
  | .tup ds => some (!ds.isEmpty)
  | .lst ds => some (!ds.isEmpty)
  | .dK kds => some (!kds.isEmpty)
  | .ref n => match h[n]? with
    | some (.lst ds) => some (!ds.isEmpty)
    | some (.dK kds) => some (!kds.isEmpty)
    | _ => none
  | _ => none
def eT (x : ED) : EB := fun τ h => (x τ h).bind fun d h1 => match tru h1 d with
  | some k => .ok k h1
  | none => .stuck
theorem emp_eq {α β : Type} : ∀ {xs : List α} {ys : List β}, xs.length = ys.length → xs.isEmpty = ys.isEmpty
  | [], [], _ => rfl
  | [], _ :: _, e => by cases e
  | _ :: _, [], e => by cases e
  | _ :: _, _ :: _, _ => rfl
theorem tru_of {K : PySem.W.Frag} {μ : List Addr} {F H : Hp} {h : Own} {v : V} {d : D} {k : Bool} (R : RelH ca μ F h H) (V1 : VR ca μ F v d) (e : tru h d = some k) : TruV K v H k := by
  cases V1 with
  | non => cases e; rfl
  | bl b => cases e; rfl
  | int b => cases e; rfl
  | str s =>
    unfold tru at e
    dsimp only at e
    by_cases q : s.length ≤ sizeLine
    · rw [if_pos q] at e; cases e; exact ⟨q, rfl⟩
    · rw [if_neg q] at e; cases e
  | tup q r => cases e; exact .inr (.inl ⟨_, SqT.of (R.fz _ _ q), by rw [emp_eq r.length]⟩)
  | lst q r => cases e; exact .inl ⟨_, SqL.of (R.fz _ _ q), by rw [emp_eq r.length]⟩
  | dK q k r =>
    cases e
    have hl := r.length
    rw [List.length_map, List.length_map] at hl
    exact .inr (.inr ⟨_, R.fz _ _ q, by rw [emp_eq hl]⟩)
  | dT q k r => cases e
  | obj q k r => cases e
  | ro a => cases e
  | ref q =>
    rename_i a n
    unfold tru at e
    dsimp only at e
    split at e
    · rename_i ds q2
      cases e
      obtain ⟨vs, q3, r3⟩ := R.ob n _ _ q q2
      exact .inl ⟨_, SqL.of q3, by rw [emp_eq r3.length]⟩
    · rename_i ds q2
      cases e
      obtain ⟨vs, q3, k3, r3⟩ := R.ob n _ _ q q2
      have hl := r3.length
      rw [List.length_map, List.length_map] at hl
      exact .inr (.inr ⟨_, q3, by rw [emp_eq hl]⟩)
    · cases e
theorem sb_t {x : ED} (hx : SD ca X W e x) (he : ∀ whole, isTrue e X.env whole = (do let v ← whole; standAt e.pos; holding [v] (truthy v))) : SB ca X W e (eT x) := PT.imp (pt_truth hx he) fun σ H Q ⟨μ, F, τ, h, A, p⟩ => ⟨μ, F, τ, h, A, p.bind.imp fun d μ1 F1 H1 h1 E1 R1 q v V => by
  cases e1 : tru h1 d with
  | none => simp only [e1] at q; exact q.elim
  | some k =>
    simp only [e1] at q
    exact ⟨k, tru_of R1 V e1, q.ok R1⟩⟩
/-! ### and, or, not -/
def bAnd (a b : EB) : EB := fun τ h => (a τ h).bind fun k h1 => if k = true then b τ h1 else .ok false h1
def bOr (a b : EB) : EB := fun τ h => (a τ h).bind fun k h1 => if k = true then .ok true h1 else b τ h1
def bNot (a : EB) : EB := fun τ h => (a τ h).bind fun k h1 => .ok (!k) h1
variable {rest : List Expr} {ta tb : EB}
theorem sw_and1 (ha : SB ca X W a ta) : SW ca X W (.BoolOp .And [a] pos) ta := pw_and1 ha
theorem sw_or1 (ha : SB ca X W a ta) : SW ca X W (.BoolOp .Or [a] pos) ta := pw_or1 ha
theorem and_rd {σ : L2.St} {H : Hp} {Q : Bool → Hp → Prop} : rdB ca W (bAnd ta tb) σ H Q → tAnd (rdB ca W ta) (rdB ca W tb) σ H Q := fun ⟨μ, F, τ, h, A, p⟩ => ⟨μ, F, τ, h, A, p.bind.imp fun k μ1 F1 H1 h1 E1 R1 q => by
  cases k with
  | true => rw [if_pos rfl] at q ⊢; exact ⟨μ1, F1, τ, h1, A.ext E1 R1, q⟩
  | false => rw [if_neg Bool.false_ne_true] at q ⊢; exact q.ok R1⟩
theorem or_rd {σ : L2.St} {H : Hp} {Q : Bool → Hp → Prop} : rdB ca W (bOr ta tb) σ H Q → tOr (rdB ca W ta) (rdB ca W tb) σ H Q := fun ⟨μ, F, τ, h, A, p⟩ => ⟨μ, F, τ, h, A, p.bind.imp fun k μ1 F1 H1 h1 E1 R1 q => by
  cases k with
  | true => rw [if_pos rfl] at q ⊢; exact q.ok R1
  | false => rw [if_neg Bool.false_ne_true] at q ⊢; exact ⟨μ1, F1, τ, h1, A.ext E1 R1, q⟩⟩
theorem sw_and (ha : SB ca X W a ta) (hb : SW ca X W (.BoolOp .And (b :: rest) pos) tb) : SW ca X W (.BoolOp .And (a :: b :: rest) pos) (bAnd ta tb) := PW.imp (pw_and ha hb) fun σ H Q q => and_rd q
theorem sw_or (ha : SB ca X W a ta) (hb : SW ca X W (.BoolOp .Or (b :: rest) pos) tb) : SW ca X W (.BoolOp .Or (a :: b :: rest) pos) (bOr ta tb) := PW.imp (pw_or ha hb) fun σ H Q q => or_rd q
theorem sb_w (h : SW ca X W e ta) : SB ca X W e ta := h.pt
theorem sb_not (ha : SB ca X W a ta) : SB ca X W (.UnaryOp .Not a pos) (bNot ta) := PT.imp (pt_not ha) fun σ H Q ⟨μ, F, τ, h, A, p⟩ => ⟨μ, F, τ, h, A, p.bind.imp fun k μ1 F1 H1 h1 E1 R1 q => q.ok R1⟩
/-- .. as values, of bools -/
def vAnd (a b : ED) : ED := fun τ h => (a τ h).bind fun x h1 => match x with
  | .bl true => b τ h1
  | .bl false => .ok (.bl false) h1
  | _ => .stuck
def vOr (a b : ED) : ED := fun τ h => (a τ h).bind fun x h1 => match x with
  | .bl false => b τ h1
  | .bl true => .ok (.bl true) h1
  | _ => .stuck
variable {va vb : ED}
theorem sd_one {op} (ha : SD ca X W a va) : SD ca X W (.BoolOp op [a] pos) va := pe_one ha
theorem sd_and (ha : SD ca X W a va) (hb : SD ca X W (.BoolOp .And (b :: rest) pos) vb) : SD ca X W (.BoolOp .And (a :: b :: rest) pos) (vAnd va vb) := PE.imp (pe_and ha hb) fun σ H Q ⟨μ, F, τ, h, A, p⟩ => ⟨μ, F, τ, h, A, p.bind.imp fun d μ1 F1 H1 h1 E1 R1 q v V => by
  cases V with
  | bl k =>
    refine ⟨k, rfl, ?_⟩
    cases k with
    | true => rw [if_pos rfl]; exact ⟨μ1, F1, τ, h1, A.ext E1 R1, q⟩
    | false => rw [if_neg Bool.false_ne_true]; exact q.ok R1 _ (.bl false)
  | _ => exact (show False from q).elim⟩
theorem sd_or (ha : SD ca X W a va) (hb : SD ca X W (.BoolOp .Or (b :: rest) pos) vb) : SD ca X W (.BoolOp .Or (a :: b :: rest) pos) (vOr va vb) := PE.imp (pe_or ha hb) fun σ H Q ⟨μ, F, τ, h, A, p⟩ => ⟨μ, F, τ, h, A, p.bind.imp fun d μ1 F1 H1 h1 E1 R1 q v V => by
  cases V with
  | bl k =>
    refine ⟨k, rfl, ?_⟩
    cases k with
    | true => rw [if_pos rfl]; exact q.ok R1 _ (.bl true)
    | false => rw [if_neg Bool.false_ne_true]; exact ⟨μ1, F1, τ, h1, A.ext E1 R1, q⟩
  | _ => exact (show False from q).elim⟩
/-- a if t else b -/
def eIf (t : EB) (a b : EX) : EX := fun τ h => (t τ h).bind fun k h1 => if k = true then a τ h1 else b τ h1
theorem se_if {xa xb : EX} (hc : SB ca X W c ta) (ha : SE ca X W a xa) (hb : SE ca X W b xb) : SE ca X W (.IfExp c a b pos) (eIf ta xa xb) := PE.imp (pe_ifExp hc ha hb) fun σ H Q ⟨μ, F, τ, h, A, p⟩ => ⟨μ, F, τ, h, A, p.bind.imp fun k μ1 F1 H1 h1 E1 R1 q => by
  have q' := q.imp (K' := fun r μ2 F2 H2 _ => ∀ v, RR ca μ2 F2 H1 H2 v r → Q v H2) fun r μ2 F2 H2 h2 E2 R2 q2 w V2 => q2 w (RR.back E1 V2)
  cases k with
  | true => show rdE ca W xa σ H1 Q; rw [if_pos rfl] at q'; exact ⟨μ1, F1, τ, h1, A.ext E1 R1, q'⟩
  | false => show rdE ca W xb σ H1 Q; rw [if_neg Bool.false_ne_true] at q'; exact ⟨μ1, F1, τ, h1, A.ext E1 R1, q'⟩⟩
/-! ### arguments, displays -/
def aNil : EA := fun _ h => .ok [] h
def aCons (x : ED) (xs : EA) : EA := fun τ h => (x τ h).bind fun d h1 => (xs τ h1).bind fun ds h2 => .ok (d :: ds) h2
variable {es : List Expr} {xs : EA}
theorem sa_nil : SA ca X W [] aNil := PA.imp pa_nil fun σ H Q ⟨μ, F, τ, h, A, p⟩ => p.ok A.rel [] .nil
theorem sa_cons {x : ED} (hx : SD ca X W e x) (hxs : SA ca X W es xs) (hs : starEach (e :: es) X.env = (false, eval e X.env) :: starEach es X.env) : SA ca X W (e :: es) (aCons x xs) := PA.imp (pa_cons hx hxs hs) fun σ H Q ⟨μ, F, τ, h, A, p⟩ =>
  ⟨μ, F, τ, h, A, p.bind.imp fun d μ1 F1 H1 h1 E1 R1 q v V => ⟨μ1, F1, τ, h1, A.ext E1 R1, q.bind.imp fun ds μ2 F2 H2 h2 E2 R2 q2 vs Vs => q2.ok R2 _ (.cons (E2.vr V) Vs)⟩⟩
def eTup (xs : EA) : ED := fun τ h => (xs τ h).bind fun ds h1 => if ds.length ≤ sizeLine then .ok (.tup ds) h1 else .stuck
def eLst (xs : EA) : EX := fun τ h => (xs τ h).bind fun ds h1 => if ds.length ≤ sizeLine then .ok (.n (.lst ds)) h1 else .stuck
theorem sd_tup {x1} (h : SA ca X W es xs) : SD ca X W (.Tuple es x1 pos) (eTup xs) := PE.imp (pe_tup h) fun σ H Q ⟨μ, F, τ, h, A, p⟩ => ⟨μ, F, τ, h, A, p.bind.imp fun ds μ1 F1 H1 h1 E1 R1 q vs Vs => by
  by_cases hC : ds.length ≤ sizeLine
  · rw [if_pos hC] at q
    refine ⟨by rw [Vs.length]; exact hC, fun l hl => ?_⟩
    obtain ⟨E2, R2⟩ := fzNew (b := τ.b) R1 hl (.tup vs)
    exact q _ _ _ E2 R2 _ (.tup upd_same (E2.vrs Vs))
  · rw [if_neg hC] at q
    exact q.elim⟩
theorem se_lst (h : SA ca X W es xs) : SE ca X W (.List es pos) (eLst xs) := PE.imp (pe_lst h) fun σ H Q ⟨μ, F, τ, h, A, p⟩ => ⟨μ, F, τ, h, A, p.bind.imp fun ds μ1 F1 H1 h1 E1 R1 q vs Vs => by
  by_cases hC : ds.length ≤ sizeLine
  · rw [if_pos hC] at q
    refine ⟨by rw [Vs.length]; exact hC, fun l hl => ?_⟩
    obtain ⟨E2, R2, w⟩ := neNew (b := τ.b) R1 hl (.lst vs) (o := .lst ds) fun H' q => ⟨vs, q, Vs⟩
    exact q _ _ _ E2 R2 _ (RR.back E1 w)
  · rw [if_neg hC] at q
    exact q.elim⟩
/-! ### attributes -/
def fFld (cs : List Nat) (i : Nat) : F1 := fun x h => match x with
  | .obj c fs => if c ∈ cs then (match fs[i]? with | some d => .ok (.v d) h | none => .stuck) else .stuck
  | .ref n => match h[n]? with
    | some (.ins c fs) => if c ∈ cs then (match fs[i]? with | some d => .ok (.v d) h | none => .stuck) else .stuck
    | _ => .stuck
  | _ => .stuck
theorem fld_at {f : Str} : ∀ {fs : List (Str × V)} {ns : List Str} {vs : List V} {i : Nat} {v : V}, fs.map (·.1) = ns → ns.Nodup → ns[i]? = some f → fs.map (·.2) = vs → vs[i]? = some v → fs.lookup f = some v
  | [], _, _, i, v, e1, _, e3, e4, e5 => by subst e4; simp at e5
  | (g, u) :: fs, ns, vs, 0, v, e1, nd, e3, e4, e5 => by
    subst e1 e4
    simp only [List.map_cons, List.getElem?_cons_zero, Option.some.injEq] at e3 e5
    subst e3 e5
    simp
  | (g, u) :: fs, ns, vs, i + 1, v, e1, nd, e3, e4, e5 => by
    subst e1 e4
    simp only [List.map_cons, List.getElem?_cons_succ] at e3 e5
    rw [List.map_cons, List.nodup_cons] at nd
    have hne : ¬ (f == g) = true := by
      intro q
      have q' : f = g := by simpa using q
      subst q'
      exact nd.1 (List.mem_of_getElem? e3)
    rw [List.lookup_cons]
    simp only [hne]
    exact fld_at rfl nd.2 e3 rfl e5
theorem se_fld {cs : List Nat} {i : Nat} {f : Str} {x : ED} (hx : SD ca X W e x) (hb : attributeBase e f X.env (eval e X.env) = eval e X.env)
    (hc : ∀ c ∈ cs, Cls X.K (ca.ad c) ∧ NoAttr X.K (ca.ad c) f ∧ (ca.nm c).Nodup ∧ (ca.nm c)[i]? = some f) : SE ca X W (.Attribute e f pos) (e1 (fFld cs i) x) := PE.imp (pe_fld hx hb) fun σ H Q ⟨μ, F, τ, h, A, p⟩ => ⟨μ, F, τ, h, A, p.bind.imp fun d μ1 F1 H1 h1 E1 R1 q v Vr => by
  have go : ∀ {a dx : Addr} {c : Nat} {fs : List (Str × V)} {fds : List D}, v = .ref a → H1 a = some (.ins (ca.ad c) dx fs) → fs.map (·.1) = (ca.nm c).take fds.length → VRs ca μ1 F1 (fs.map (·.2)) fds →
      (PostG ca τ.b μ1 F1 H1 h1 (if c ∈ cs then (match fds[i]? with | some d => .ok (.v d) h1 | none => .stuck) else .stuck) (wx ca W σ) fun r μ2 F2 H2 _ => ∀ v, RR ca μ2 F2 H H2 v r → Q v H2) →
      ∃ a C dx fs v', v = .ref a ∧ H1 a = some (.ins C dx fs) ∧ Cls X.K C ∧ NoAttr X.K C f ∧ fs.lookup f = some v' ∧ Q v' H1 := by
    intro a dx c fs fds e1 e2 e3 r q
    by_cases hm : c ∈ cs
    · rw [if_pos hm] at q
      obtain ⟨k1, k2, k3, k4⟩ := hc c hm
      cases ei : fds[i]? with
      | none => rw [ei] at q; exact q.elim
      | some z =>
        rw [ei] at q
        obtain ⟨w, ew, rw'⟩ := r.get ei
        have hi : i < fds.length := (List.getElem?_eq_some_iff.mp ei).1
        refine ⟨a, _, dx, fs, w, e1, e2, k1, k2, fld_at e3 (List.Nodup.sublist (List.take_sublist _ _) k3) ?_ rfl ew, q.ok R1 _ rw'⟩
        rw [List.getElem?_take, if_pos hi]; exact k4
    · rw [if_neg hm] at q
      exact q.elim
  cases Vr with
  | obj e k r => exact go rfl (R1.fz _ _ e) k r q
  | ref e =>
    rename_i a n
    unfold fFld at q
    dsimp only at q
    split at q
    · rename_i c fds q2
      obtain ⟨dx, fs, w1, w2, w3⟩ := R1.ob n _ _ e q2
      exact go rfl w1 w2 w3 q
    · exact q.elim
  | _ => exact (show False from q).elim⟩
end
end Z
set_option Elab.async false
set_option linter.all false
set_option maxRecDepth 100000
set_option maxHeartbeats 1000000
/-! Z7: statements; defs and their calls. -/
namespace Z
open PySem PySem.Spec L2
section
variable {ca : Cn} {X : Cx} {W : WF} {pos : Pos} {e a b c : Expr}
/-! ### from a new object to an own one; an own one frozen -/
def eAl (x : EX) : ED := fun τ h => (x τ h).bind fun r h1 => match r with
  | .v d => .ok d h1
  | .n o => .ok (.ref h1.length) (h1 ++ [o])
theorem sd_al {x : EX} (hx : SE ca X W e x) : SD ca X W e (eAl x) := PE.imp hx fun σ H Q ⟨μ, F, τ, h, A, p⟩ => ⟨μ, F, τ, h, A, by
  unfold eAl at p
  cases hr : x τ h with
  | stuck => rw [hr] at p; exact p.elim
  | exc c h1 => rw [hr] at p; exact p
  | ok r h1 =>
    rw [hr] at p
    intro μ1 F1 H1 E1 R1 v V
    cases r with
    | v d => exact p μ1 F1 H1 E1 R1 v V
    | n o =>
      obtain ⟨a, rfl, h0, hd, hm, hF, ho⟩ := V
      have p' : PostG ca τ.b μ F H h (.ok (.ref h1.length) (h1 ++ [o])) (wx ca W σ) fun d μ1 F1 H1 _ => ∀ v, VR ca μ1 F1 v d → Q v H1 := p
      refine p' _ _ _ (E1.alloc h0 (Nat.le_trans A.bl (E1.len A.rel R1))) (R1.alloc hd hm hF ho) _ (.ref ?_)
      rw [← R1.len]
      simp⟩
/-- an own object of this frame, frozen -/
def fzr (b : Nat) (d : D) (h : Own) : Res D := match d with
  | .ref m => if b ≤ m then match h[m]? with
    | some o => match frzO o with
      | some d => .ok d (h.set m .dead)
      | none => .stuck
    | none => .stuck else .stuck
  | d => .ok d h
def eFz (x : ED) : ED := fun τ h => (x τ h).bind fun d h1 => fzr τ.b d h1
theorem frzO_dead {o : O} {d : D} (h : frzO o = some d) : o ≠ .dead := by rintro rfl; cases h
theorem frzO_stb {o : O} {d : D} (h : frzO o = some d) : stb o = false := by cases o <;> first | rfl | cases h
theorem fz_of {K : PySem.W.Frag} {μ : List Addr} {F H : Hp} {a : Addr} {o : O} {d : D} (ho : OR ca μ F H a o) (e : frzO o = some d) (hF : F a = none) : ∃ u, H a = some u ∧ VR ca μ (upd F a u) (.ref a) d := frz_ok ho e hF
theorem sd_fz {x : ED} (hx : SD ca X W e x) : SD ca X W e (eFz x) := PE.imp hx fun σ H Q ⟨μ, F, τ, h, A, p⟩ => ⟨μ, F, τ, h, A, p.bind.imp fun d μ1 F1 H1 h1 E1 R1 q v V => by
  cases V with
  | ref em =>
    rename_i a m
    unfold fzr at q
    dsimp only at q
    by_cases hb : τ.b ≤ m
    · rw [if_pos hb] at q
      cases e0 : h1[m]? with
      | none => rw [e0] at q; exact q.elim
      | some o =>
        rw [e0] at q
        dsimp only at q
        cases ef : frzO o with
        | none => rw [ef] at q; exact q.elim
        | some d =>
          rw [ef] at q
          have nd := frzO_dead ef
          obtain ⟨u, hu, hv⟩ := frz_ok (R1.ob m a o em e0) ef (R1.sep m a o em e0 nd)
          exact q μ1 _ H1 (Ext.refl.fzOwn R1 em e0 nd (frzO_stb ef)) (R1.fzOwn em e0 nd hu) _ hv
    · rw [if_neg hb] at q; exact q.elim
  | non => exact q.ok R1 _ .non
  | bl b => exact q.ok R1 _ (.bl b)
  | int b => exact q.ok R1 _ (.int b)
  | str b => exact q.ok R1 _ (.str b)
  | tup a b => exact q.ok R1 _ (.tup a b)
  | lst a b => exact q.ok R1 _ (.lst a b)
  | dK a b c => exact q.ok R1 _ (.dK a b c)
  | dT a b c => exact q.ok R1 _ (.dT a b c)
  | obj a b c => exact q.ok R1 _ (.obj a b c)
  | ro a => exact q.ok R1 _ (.ro a)⟩

/-! ### statements -/
inductive SRes where
  | next (s : Sl) (h : Own) | ret (r : R) (h : Own) | brk (s : Sl) (h : Own) | cnt (s : Sl) (h : Own) | exc (c : Nat) (s : Sl) (h : Own) | stuck
abbrev ST := Fm → Own → SRes
def PostS (ca : Cn) (W : WF) (b : Nat) (μ : List Addr) (F H : Hp) (h : Own) (r : SRes) (D : Ends) : Prop :=
  match r with
  | .next s h1 => ∀ μ1 F1 H1 σ1, Ext b μ F H h μ1 F1 H1 h1 → RelH ca μ1 F1 h1 H1 → SR ca μ1 F1 s σ1 → D.nx σ1 H1
  | .brk s h1 => ∀ μ1 F1 H1 σ1, Ext b μ F H h μ1 F1 H1 h1 → RelH ca μ1 F1 h1 H1 → SR ca μ1 F1 s σ1 → D.bk σ1 H1
  | .cnt s h1 => ∀ μ1 F1 H1 σ1, Ext b μ F H h μ1 F1 H1 h1 → RelH ca μ1 F1 h1 H1 → SR ca μ1 F1 s σ1 → D.ct σ1 H1
  | .ret r h1 => ∀ μ1 F1 H1 v, Ext b μ F H h μ1 F1 H1 h1 → RelH ca μ1 F1 h1 H1 → RR ca μ1 F1 H H1 v r → D.rt v H1
  | .exc c s h1 => ∀ μ1 F1 H1 σ1, Ext b μ F H h μ1 F1 H1 h1 → RelH ca μ1 F1 h1 H1 → SR ca μ1 F1 s σ1 → W (.ref (ca.ad c)) none σ1 H1
  | .stuck => False
theorem PostS.step {b : Nat} {μ μ1 : List Addr} {F F1 H H1 : Hp} {h h1 : Own} {r : SRes} {D : Ends} (E : Ext b μ F H h μ1 F1 H1 h1) (p : PostS ca W b μ F H h r D) : PostS ca W b μ1 F1 H1 h1 r D := by
  cases r with
  | stuck => exact p
  | next s h2 => exact fun μ2 F2 H2 σ2 E2 => p μ2 F2 H2 σ2 (E.trans E2)
  | brk s h2 => exact fun μ2 F2 H2 σ2 E2 => p μ2 F2 H2 σ2 (E.trans E2)
  | cnt s h2 => exact fun μ2 F2 H2 σ2 E2 => p μ2 F2 H2 σ2 (E.trans E2)
  | exc c s h2 => exact fun μ2 F2 H2 σ2 E2 => p μ2 F2 H2 σ2 (E.trans E2)
  | ret r h2 => exact fun μ2 F2 H2 v E2 R2 V => p μ2 F2 H2 v (E.trans E2) R2 (RR.back E V)
def rdS (ca : Cn) (W : WF) (x : ST) : TS := fun D σ H => ∃ μ F τ h, At ca μ F τ h σ H ∧ PostS ca W τ.b μ F H h (x τ h) D
def SS (ca : Cn) (X : Cx) (W : WF) (st : Stmt) (x : ST) : Prop := PS X st (rdS ca W x)
def SSs (ca : Cn) (X : Cx) (W : WF) (st : List Stmt) (x : ST) : Prop := PSs X st (rdS ca W x)
/-- an expression within a statement -/
def sE {α : Type} (x : Fm → Own → Res α) (f : α → Fm → Own → SRes) : ST := fun τ h => match x τ h with
  | .ok a h1 => f a τ h1
  | .exc c h1 => .exc c τ.s h1
  | .stuck => .stuck
theorem sE_post {α : Type} {x : Fm → Own → Res α} {f : α → Fm → Own → SRes} {μ : List Addr} {F H : Hp} {h : Own} {τ : Fm} {σ : L2.St} {D : Ends} (A : At ca μ F τ h σ H) (p : PostS ca W τ.b μ F H h (sE x f τ h) D) :
    PostG ca τ.b μ F H h (x τ h) (wx ca W σ) fun a μ1 F1 H1 h1 => PostS ca W τ.b μ1 F1 H1 h1 (f a τ h1) D := by
  unfold sE at p
  cases hx : x τ h with
  | stuck => rw [hx] at p; exact p
  | exc c h1 => rw [hx] at p; exact fun μ1 F1 H1 E1 R1 => p μ1 F1 H1 σ E1 R1 (E1.sr A.sl)
  | ok a h1 => rw [hx] at p; exact fun μ1 F1 H1 E1 R1 => p.step E1
def sPass : ST := fun τ h => .next τ.s h
def sSeq (a b : ST) : ST := fun τ h => match a τ h with
  | .next s h1 => b ⟨τ.b, s⟩ h1
  | r => r
def sNever : ST := fun _ _ => .stuck
def sBrk : ST := fun τ h => .brk τ.s h
def sCnt : ST := fun τ h => .cnt τ.s h
variable {st : Stmt} {rest : List Stmt} {x y : ST}
theorem ss_pass : SS ca X W (.Pass pos) sPass := PS.imp ps_pass fun D σ H ⟨μ, F, τ, h, A, p⟩ => p μ F H σ Ext.refl A.rel A.sl
theorem ss_brk : SS ca X W (.Break pos) sBrk := PS.imp ps_break fun D σ H ⟨μ, F, τ, h, A, p⟩ => p μ F H σ Ext.refl A.rel A.sl
theorem ss_cnt : SS ca X W (.Continue pos) sCnt := PS.imp ps_continue fun D σ H ⟨μ, F, τ, h, A, p⟩ => p μ F H σ Ext.refl A.rel A.sl
theorem sss_nil : SSs ca X W [] sPass := PSs.imp pss_nil fun D σ H ⟨μ, F, τ, h, A, p⟩ => p μ F H σ Ext.refl A.rel A.sl
theorem ss_never : SS ca X W st sNever := PS.imp ps_never fun D σ H ⟨μ, F, τ, h, A, p⟩ => p
theorem sss_never {l : List Stmt} : SSs ca X W l sNever := PSs.imp pss_never fun D σ H ⟨μ, F, τ, h, A, p⟩ => p
theorem sss_one (h : SS ca X W st x) : SSs ca X W [st] x := pss_one h
theorem sss_cons (h1 : SS ca X W st x) (h2 : SSs ca X W rest y) : SSs ca X W (st :: rest) (sSeq x y) := PSs.imp (pss_cons h1 h2) fun D σ H ⟨μ, F, τ, h, A, p⟩ => ⟨μ, F, τ, h, A, by
  unfold sSeq at p
  cases hx : x τ h with
  | next s h1 =>
    rw [hx] at p
    exact fun μ1 F1 H1 σ1 E1 R1 S1 => ⟨μ1, F1, ⟨τ.b, s⟩, h1, ⟨R1, S1, Nat.le_trans A.bl (E1.len A.rel R1)⟩, p.step E1⟩
  | _ => rw [hx] at p; exact p⟩
def sX (x : ED) : ST := sE x fun _ τ h => .next τ.s h
theorem ss_expr {x : ED} (hx : SD ca X W e x) (hs : swapsWith e none pos.line X.env = pure false) : SS ca X W (.Expr e pos) (sX x) := PS.imp (ps_expr hx hs) fun D σ H ⟨μ, F, τ, h, A, p⟩ => ⟨μ, F, τ, h, A, (sE_post A p).imp fun d μ1 F1 H1 h1 E1 R1 q v V => q μ1 F1 H1 σ Ext.refl R1 (E1.sr A.sl)⟩
def sRet (x : EX) : ST := sE x fun r _ h => .ret r h
theorem PostS.retR {b : Nat} {μ μ1 : List Addr} {F F1 H H1 : Hp} {h h1 : Own} {x : Res R} {D : Ends} : True := trivial
theorem ss_ret {x : EX} (hx : SE ca X W e x) : SS ca X W (.Return (some e) pos) (sRet x) := PS.imp (ps_ret hx) fun D σ H ⟨μ, F, τ, h, A, p⟩ => ⟨μ, F, τ, h, A, by
  unfold sRet sE at p
  cases hr : x τ h with
  | stuck => rw [hr] at p; exact p
  | exc c h1 => rw [hr] at p; exact fun μ1 F1 H1 E1 R1 => p μ1 F1 H1 σ E1 R1 (E1.sr A.sl)
  | ok r h1 => rw [hr] at p; exact fun μ1 F1 H1 E1 R1 v V => p μ1 F1 H1 v E1 R1 V⟩
def sRetN : ST := fun _ h => .ret (.v .non) h
theorem ss_retN : SS ca X W (.Return none pos) sRetN := PS.imp ps_retN fun D σ H ⟨μ, F, τ, h, A, p⟩ => p μ F H .non Ext.refl A.rel (show VR ca _ _ _ _ from .non)
def sIf (t : EB) (a b : ST) : ST := sE t fun k τ h => if k = true then a τ h else b τ h
theorem ss_if {tc : EB} {l1 l2 : List Stmt} (hc : SB ca X W c tc) (h1 : SSs ca X W l1 x) (h2 : SSs ca X W l2 y) : SS ca X W (.If c l1 l2 pos) (sIf tc x y) := PS.imp (ps_if hc h1 h2) fun D σ H ⟨μ, F, τ, h, A, p⟩ => ⟨μ, F, τ, h, A, (sE_post A p).imp fun k μ1 F1 H1 h1 E1 R1 q => by
  cases k with
  | true => show rdS ca W x D σ H1; rw [if_pos rfl] at q; exact ⟨μ1, F1, τ, h1, A.ext E1 R1, q⟩
  | false => show rdS ca W y D σ H1; rw [if_neg Bool.false_ne_true] at q; exact ⟨μ1, F1, τ, h1, A.ext E1 R1, q⟩⟩
/-! ### targets -/
abbrev ET := D → Fm → Own → SRes
def rdG (ca : Cn) (W : WF) (g : ET) : TG := fun v σ H Q => ∃ μ F τ h d, At ca μ F τ h σ H ∧ VR ca μ F v d ∧ ∃ s1 h1, g d τ h = .next s1 h1 ∧ ∀ μ1 F1 H1 σ1, Ext τ.b μ F H h μ1 F1 H1 h1 → RelH ca μ1 F1 h1 H1 → SR ca μ1 F1 s1 σ1 → Q σ1 H1
def SG (ca : Cn) (X : Cx) (W : WF) (tg : Expr) (g : ET) : Prop := PG X tg (rdG ca W g)
theorem PG.imp {X : Cx} {e : Expr} {t t' : TG} (h : PG X e t) (i : ∀ v σ H Q, t' v σ H Q → t v σ H Q) : PG X e t' := ⟨fun pins s σ H v u Q I r q => h.run pins s σ H v u Q I r (i v σ H Q q)⟩
theorem PGs.imp {X : Cx} {e : List Expr} {t t' : TGs} (h : PGs X e t) (i : ∀ v σ H Q, t' v σ H Q → t v σ H Q) : PGs X e t' := ⟨fun pins s σ H v u Q I r q => h.run pins s σ H v u Q I r (i v σ H Q q)⟩
def tN (i : Nat) : ET := fun d τ h => .next (τ.s.set i (some d)) h
theorem sg_name {tg : Expr} {i : Nat} (h : PG X tg (gName i)) : SG ca X W tg (tN i) := PG.imp h fun v σ H Q ⟨μ, F, τ, h, d, A, V, s1, h1, e, p⟩ => by
  cases e
  exact p μ F H _ Ext.refl A.rel (A.sl.set i V)
abbrev ETs := List D → Fm → Own → SRes
def tNil : ETs := fun ds τ h => match ds with
  | [] => .next τ.s h
  | _ => .stuck
def tCons (g : ET) (gs : ETs) : ETs := fun ds τ h => match ds with
  | d :: ds => match g d τ h with
    | .next s h1 => gs ds ⟨τ.b, s⟩ h1
    | _ => .stuck
  | [] => .stuck
def rdGs (ca : Cn) (W : WF) (g : ETs) : TGs := fun vs σ H Q => ∃ μ F τ h ds, At ca μ F τ h σ H ∧ VRs ca μ F vs ds ∧ ∃ s1 h1, g ds τ h = .next s1 h1 ∧ ∀ μ1 F1 H1 σ1, Ext τ.b μ F H h μ1 F1 H1 h1 → RelH ca μ1 F1 h1 H1 → SR ca μ1 F1 s1 σ1 → Q σ1 H1
def SGs (ca : Cn) (X : Cx) (W : WF) (tg : List Expr) (g : ETs) : Prop := PGs X tg (rdGs ca W g)
theorem sgs_nil : SGs ca X W [] tNil := PGs.imp pgs_nil fun vs σ H Q ⟨μ, F, τ, h, ds, A, V, s1, h1, e, p⟩ => by
  cases V with
  | nil => cases e; exact ⟨rfl, p μ F H σ Ext.refl A.rel A.sl⟩
  | cons _ _ => cases e
theorem sgs_cons {es : List Expr} {g : ET} {gs : ETs} (h1 : SG ca X W e g) (h2 : SGs ca X W es gs) (hs : (assignEach (e :: es) X.env).map (·.2) = assign e X.env :: (assignEach es X.env).map (·.2)) : SGs ca X W (e :: es) (tCons g gs) := PGs.imp (pgs_cons h1 h2 hs) fun vs σ H Q ⟨μ, F, τ, h, ds, A, V, s1, h1, e, p⟩ => by
  cases V with
  | nil => cases e
  | @cons v d vs ds r t =>
    unfold tCons at e
    dsimp only at e
    cases hg : g d τ h with
    | next s h2 =>
      rw [hg] at e
      exact ⟨_, _, rfl, μ, F, τ, h, d, A, r, s, h2, hg, fun μ1 F1 H1 σ1 E1 R1 S1 => ⟨μ1, F1, ⟨τ.b, s⟩, h2, ds, ⟨R1, S1, Nat.le_trans A.bl (E1.len A.rel R1)⟩, E1.vrs t, s1, h1, e, fun μ2 F2 H2 σ2 E2 R2 S2 => p μ2 F2 H2 σ2 (E1.trans E2) R2 S2⟩⟩
    | _ => rw [hg] at e; cases e
def tTup (gs : ETs) : ET := fun d τ h => match d with
  | .tup ds => gs ds τ h
  | _ => .stuck
theorem gs_len {gs : ETs} {n : Nat} : True := trivial
/-- n targets want n items -/
def LenOk (gs : ETs) (n : Nat) : Prop := ∀ ds τ h s1 h1, gs ds τ h = .next s1 h1 → ds.length = n
theorem len_nil : LenOk tNil 0 := fun ds τ h s1 h1 e => by
  cases ds with
  | nil => rfl
  | cons _ _ => cases e
theorem len_cons {g : ET} {gs : ETs} {n : Nat} (h : LenOk gs n) : LenOk (tCons g gs) (n + 1) := fun ds τ h' s1 h1 e => by
  cases ds with
  | nil => cases e
  | cons d ds =>
    unfold tCons at e
    dsimp only at e
    cases hg : g d τ h' with
    | next s h2 => rw [hg] at e; rw [List.length_cons, h ds _ _ _ _ e]
    | _ => rw [hg] at e; cases e
theorem sg_tup {es : List Expr} {k n : Nat} {gs : ETs} (hc : X.calm = true) (h : SGs ca X W es gs) (hl : LenOk gs n) (hn : (assignEach es X.env).length = n) (hst : (assignEach es X.env).findIdx? (·.1) = none) : SG ca X W (.Tuple es k pos) (tTup gs) :=
  PG.imp (pg_tup hc h hn hst) fun v σ H Q ⟨μ, F, τ, h, d, A, V, s1, h1, e, p⟩ => by
    cases V with
    | tup q r => exact ⟨_, _, rfl, SqT.of (A.rel.fz _ _ q), by rw [r.length]; exact hl _ _ _ _ _ e, μ, F, τ, h, _, A, r, s1, h1, e, p⟩
    | _ => cases e
/-! ### assignments -/
def sA (x : ED) (g : ET) : ST := sE x fun d τ h => match g d τ h with
  | .next s h1 => .next s h1
  | _ => .stuck
theorem as_rd {x : ED} {g : ET} : ∀ D σ H, rdS ca W (sA x g) D σ H → tAsg (rdD ca W x) (rdG ca W g) D σ H := fun D σ H ⟨μ, F, τ, h, A, p⟩ => ⟨μ, F, τ, h, A, (sE_post A p).imp fun d μ1 F1 H1 h1 E1 R1 q v V => by
  cases hg : g d τ h1 with
  | next s h2 => rw [hg] at q; exact ⟨μ1, F1, τ, h1, d, A.ext E1 R1, V, s, h2, hg, fun μ2 F2 H2 σ2 E2 R2 S2 => q μ2 F2 H2 σ2 E2 R2 S2⟩
  | _ => rw [hg] at q; exact q.elim⟩
theorem ss_asg {tg : Expr} {x : ED} {g : ET} (hx : SD ca X W e x) (hg : SG ca X W tg g) (hs : swapsWithSole [tg] e pos.line X.env = pure false) (hw : swappedStores [tg] e X.env = pure none)
    (h1 : (assignEach [tg] X.env).map (·.2) = [assign tg X.env]) : SS ca X W (.Assign [tg] e pos) (sA x g) := PS.imp (ps_asg hx hg hs hw h1) as_rd
def sSet (i : Nat) (x : ED) : ST := sE x fun d τ h => .next (τ.s.set i (some d)) h
theorem set_rd {i : Nat} {x : ED} : ∀ D σ H, rdS ca W (sSet i x) D σ H → tAsg (rdD ca W x) (gName i) D σ H := fun D σ H ⟨μ, F, τ, h, A, p⟩ => ⟨μ, F, τ, h, A, (sE_post A p).imp fun d μ1 F1 H1 h1 E1 R1 q v V => q μ1 F1 H1 _ Ext.refl R1 ((E1.sr A.sl).set i V)⟩
/-- name = e -/
theorem ss_set {i : Nat} {x : ED} {n : Str} {pos' : Pos} (hN : X.N.Nodup) (hi : X.N[i]? = some n) (hx' : Loc X.env.scope n) (hx : SD ca X W e x) (hs : swapsWith e (some (.Name n pos')) pos.line X.env = pure false) (hf : X.fn n = true ∨ X.env.scope.names.lookup n = some .local) :
    SS ca X W (.Assign [.Name n pos'] e pos) (sSet i x) := PS.imp (ps_set hN hi hx' hx hs hf) set_rd
end
end Z
set_option Elab.async false
set_option linter.all false
set_option maxRecDepth 100000
set_option maxHeartbeats 1000000
/-! Z8: defs and calls; stores. -/
namespace Z
open PySem PySem.Spec L2
section
variable {ca : Cn} {X : Cx} {W : WF} {pos : Pos} {e a b c : Expr}
/-! ### a def -/
/-- what a def's body does: the base, the arguments, the heap -/
abbrev BD := Nat → List D → Own → SRes
def body (N : Nat) (x : ST) : BD := fun b ds h => x ⟨b, ds.map some ++ List.replicate (N - ds.length) none⟩ h
/-- a def's promise -/
def PostF (ca : Cn) (b : Nat) (μ : List Addr) (F H : Hp) (h : Own) (r : SRes) (Q : VK) (E : XK) : Prop :=
  match r with
  | .next _ h1 => ∀ μ1 F1 H1, Ext b μ F H h μ1 F1 H1 h1 → RelH ca μ1 F1 h1 H1 → Q .non H1
  | .ret r h1 => ∀ μ1 F1 H1 v, Ext b μ F H h μ1 F1 H1 h1 → RelH ca μ1 F1 h1 H1 → RR ca μ1 F1 H H1 v r → Q v H1
  | .exc c _ h1 => ∀ μ1 F1 H1, Ext b μ F H h μ1 F1 H1 h1 → RelH ca μ1 F1 h1 H1 → E (.ref (ca.ad c)) none H1
  | _ => False
def spB (ca : Cn) (n : Nat) (G : BD) : Sp := fun vs H Q E => ∃ μ F h ds b, RelH ca μ F h H ∧ VRs ca μ F vs ds ∧ ds.length = n ∧ b ≤ h.length ∧ PostF ca b μ F H h (G b ds h) Q E
section
variable {P : Program} {w : World} {K : PySem.W.Frag} {mg : Str → Option Value} {base : Heap}
theorem def_ok {x qual : Str} {st : Stmt} {f : Addr} {fd : FuncData} {N ps : List Str} {k : Nat} {bd : ST} (F : Fun K x qual st f fd) (S : FnScope N ps (defScope st))
    (hb : ∀ (cdv : Value) (A : Around) (outer : List Env) (s : Shared) (H : Hp) (E : XK), Room k (A.deeper (PyProof.Rows.envOfC qual (defScope st) s.heap.objs.size f cdv)) →
      SSs ca (cxOf (L2.CX P w) P w K mg base N qual (defScope st) f cdv A outer s H E) (fun cls d _ H' => E cls d H') (defBody st) bd) :
    FnOk P w K mg base (L2.CX P w) (k + 1) f fd ps (spB ca ps.length (body N.length bd)) := by
  refine F.okX S (fun vs H Q E ⟨μ, F, h, ds, b, R, V, hl, _, _⟩ => by rw [V.length, hl]) (fun cdv A outer s H vs Q E hr ⟨μ, F, h, ds, b, R, V, hl, hbl, p⟩ => ?_)
  refine ⟨_, hb cdv A outer s H E hr, μ, F, ⟨b, ds.map some ++ List.replicate (N.length - ds.length) none⟩, h, ⟨R, ⟨?_, ?_⟩, hbl⟩, ?_⟩
  · show _ = (L2.start N vs).length
    unfold L2.start
    simp [V.length]
  · intro i d hi
    by_cases hlt : i < ds.length
    · rw [List.getElem?_append_left (by simpa using hlt), List.getElem?_map] at hi
      cases e1 : ds[i]? with
      | none => rw [e1] at hi; cases hi
      | some d' =>
        rw [e1] at hi
        cases hi
        obtain ⟨v, ev, rv⟩ := V.get e1
        refine ⟨v, ?_, rv⟩
        unfold L2.start
        rw [List.getElem?_append_left (by rw [List.length_map, V.length]; exact hlt), List.getElem?_map, ev]
        rfl
    · rw [List.getElem?_append_right (by simpa using hlt), List.getElem?_replicate] at hi
      split at hi <;> cases hi
  · show PostS ca _ b μ F H h (bd ⟨b, ds.map some ++ List.replicate (N.length - ds.length) none⟩ h) _
    have p' : PostF ca b μ F H h (bd ⟨b, ds.map some ++ List.replicate (N.length - ds.length) none⟩ h) Q E := p
    generalize bd ⟨b, ds.map some ++ List.replicate (N.length - ds.length) none⟩ h = r at p'
    cases r with
    | next s h1 => exact fun μ1 F1 H1 σ1 E1 R1 S1 => p' μ1 F1 H1 E1 R1
    | ret r h1 => exact p'
    | exc c s h1 => exact fun μ1 F1 H1 σ1 E1 R1 S1 => p' μ1 F1 H1 E1 R1
    | _ => exact p'.elim
end
/-! ### the end of a call -/
def notDead : O → Bool
  | .dead => false
  | .lkK _ => false
  | .lkT _ => false
  | _ => true
def exitR (b : Nat) (r : R) (h1 : Own) : Res R := match r with
  | .v (.ref m) => if m < b then .ok (.v (.ref m)) (h1.take b) else match h1[m]? with
    | some o => if nrfO o = true ∧ notDead o = true then .ok (.n o) (h1.take b) else .stuck
    | none => .stuck
  | .v d => if nrf d = true then .ok (.v d) (h1.take b) else .stuck
  | .n o => if nrfO o = true then .ok (.n o) (h1.take b) else .stuck
def callB (G : BD) (ds : List D) (h : Own) : Res R := match G h.length ds h with
  | .next _ h1 => exitR h.length (.v .non) h1
  | .ret r h1 => exitR h.length r h1
  | .exc c _ h1 => .exc c (h1.take h.length)
  | _ => .stuck
section
variable {μ μ1 : List Addr} {F F1 H H1 : Hp} {h h1 : Own}
/-- the own heap cut back behind a call -/
theorem cut_ok (R : RelH ca μ F h H) (E : Ext h.length μ F H h μ1 F1 H1 h1) (R1 : RelH ca μ1 F1 h1 H1) : RelH ca μ F1 (h1.take h.length) H1 ∧ ∀ b, b ≤ h.length → Ext b μ F H h μ F1 H1 (h1.take h.length) := by
  obtain ⟨m, em, nm⟩ := E.pre
  have hl : h.length ≤ h1.length := E.len R R1
  have ix : ∀ (n : Nat) (a : Addr), μ[n]? = some a → μ1[n]? = some a := E.ix
  have tk : ∀ (n : Nat) (o : O), (h1.take h.length)[n]? = some o → n < h.length ∧ h1[n]? = some o := fun n o q => by
    have hn : n < h.length := by
      have := (List.getElem?_eq_some_iff.mp q).1
      rw [List.length_take] at this
      omega
    rw [List.getElem?_take, if_pos hn] at q
    exact ⟨hn, q⟩
  refine ⟨⟨by rw [List.length_take, R.len]; omega, R.nd, R1.fz, fun n a o e1 e2 e3 => ?_, fun a ha => R1.dom a (by rw [em]; exact List.mem_append_left _ ha), fun n a o e1 e2 => ?_⟩, fun b hb => ?_⟩
  · exact R1.sep n a o (ix n a e1) (tk n o e2).2 e3
  · obtain ⟨hn, q⟩ := tk n o e2
    have o1 := R1.ob n a o (ix n a e1) q
    rcases E.keep n o hn q with z | z
    · exact (R.ob n a o e1 z).back em o1
    · exact o1.nrf z
  · refine ⟨⟨[], by simp, by simp⟩, E.fz, E.frame, E.dom, E.newF, fun k o hk q => ?_, fun n a o f1 f2 f3 => ?_⟩
    · obtain ⟨hn, q⟩ := tk k o q
      exact E.keep k o hn q
    · obtain ⟨w1, w2⟩ := E.st n a o f1 f2 f3
      rw [List.getElem?_take, if_pos (List.getElem?_eq_some_iff.mp f2).1]
      exact ⟨w1, w2⟩
theorem exit_ok {r : R} {Wx : Nat → Hp → Prop} {b : Nat} {v : V} {Q : VK} (R : RelH ca μ F h H) (hb : b ≤ h.length) (E : Ext h.length μ F H h μ1 F1 H1 h1) (R1 : RelH ca μ1 F1 h1 H1) (V1 : RR ca μ1 F1 H H1 v r)
    (p : PostG ca b μ F H h (exitR h.length r h1) Wx fun r μ1 F1 H1 _ => ∀ v, RR ca μ1 F1 H H1 v r → Q v H1) : Q v H1 := by
  obtain ⟨Rc, Ec⟩ := cut_ok R E R1
  obtain ⟨m, em, nm⟩ := E.pre
  cases r with
  | n o =>
    have p' : PostG ca b μ F H h (if nrfO o = true then .ok (.n o) (h1.take h.length) else .stuck) Wx fun r μ1 F1 H1 _ => ∀ v, RR ca μ1 F1 H H1 v r → Q v H1 := p
    by_cases q : nrfO o = true
    · rw [if_pos q] at p'
      obtain ⟨a, e, h0, hd, hm, hF, ho⟩ := V1
      exact p' μ F1 H1 (Ec b hb) Rc v ⟨a, e, h0, hd, fun z => hm (by rw [em]; exact List.mem_append_left _ z), hF, ho.nrf q⟩
    · rw [if_neg q] at p'; exact p'.elim
  | v d =>
    have V1' : VR ca μ1 F1 v d := V1
    have plain : nrf d = true → PostG ca b μ F H h (.ok (.v d) (h1.take h.length)) Wx (fun r μ1 F1 H1 _ => ∀ v, RR ca μ1 F1 H H1 v r → Q v H1) → Q v H1 := fun q p => p μ F1 H1 (Ec b hb) Rc v (show VR ca _ _ _ _ from V1'.nrf q)
    cases d with
    | ref n =>
      have p' : PostG ca b μ F H h (if n < h.length then .ok (.v (.ref n)) (h1.take h.length) else match h1[n]? with
        | some o => if nrfO o = true ∧ notDead o = true then .ok (.n o) (h1.take h.length) else .stuck
        | none => .stuck) Wx fun r μ1 F1 H1 _ => ∀ v, RR ca μ1 F1 H H1 v r → Q v H1 := p
      cases V1' with
      | ref en =>
        rename_i a
        by_cases hn : n < h.length
        · rw [if_pos hn] at p'
          refine p' μ F1 H1 (Ec b hb) Rc _ (show VR ca _ _ _ _ from .ref ?_)
          rw [em, List.getElem?_append_left (by rw [R.len]; exact hn)] at en
          exact en
        · rw [if_neg hn] at p'
          cases e1 : h1[n]? with
          | none => rw [e1] at p'; exact p'.elim
          | some o =>
            rw [e1] at p'
            dsimp only at p'
            by_cases q : nrfO o = true ∧ notDead o = true
            · rw [if_pos q] at p'
              have hnd : o ≠ .dead := by rintro rfl; exact Bool.false_ne_true q.2
              have hin : a ∈ m := by
                rw [em, List.getElem?_append_right (by rw [R.len]; omega)] at en
                exact List.mem_of_getElem? en
              have hnm : a ∉ μ := fun z => R.dom a z (nm a hin)
              exact p' μ F1 H1 (Ec b hb) Rc _ ⟨a, rfl, nm a hin, R1.dom a (List.mem_of_getElem? en), hnm, R1.sep n a o en e1 hnd, (R1.ob n a o en e1).nrf q.1⟩
            · rw [if_neg q] at p'; exact p'.elim
    | non => exact plain rfl (by simpa [exitR, nrf] using p)
    | bl x => exact plain rfl (by simpa [exitR, nrf] using p)
    | int x => exact plain rfl (by simpa [exitR, nrf] using p)
    | str x => exact plain rfl (by simpa [exitR, nrf] using p)
    | tup x =>
      have p' : PostG ca b μ F H h (if nrf (.tup x) = true then .ok (.v (.tup x)) (h1.take h.length) else .stuck) Wx fun r μ1 F1 H1 _ => ∀ v, RR ca μ1 F1 H H1 v r → Q v H1 := p
      by_cases q : nrf (.tup x) = true
      · rw [if_pos q] at p'; exact plain q p'
      · rw [if_neg q] at p'; exact p'.elim
    | lst x =>
      have p' : PostG ca b μ F H h (if nrf (.lst x) = true then .ok (.v (.lst x)) (h1.take h.length) else .stuck) Wx fun r μ1 F1 H1 _ => ∀ v, RR ca μ1 F1 H H1 v r → Q v H1 := p
      by_cases q : nrf (.lst x) = true
      · rw [if_pos q] at p'; exact plain q p'
      · rw [if_neg q] at p'; exact p'.elim
    | dK x =>
      have p' : PostG ca b μ F H h (if nrf (.dK x) = true then .ok (.v (.dK x)) (h1.take h.length) else .stuck) Wx fun r μ1 F1 H1 _ => ∀ v, RR ca μ1 F1 H H1 v r → Q v H1 := p
      by_cases q : nrf (.dK x) = true
      · rw [if_pos q] at p'; exact plain q p'
      · rw [if_neg q] at p'; exact p'.elim
    | dT x =>
      have p' : PostG ca b μ F H h (if nrf (.dT x) = true then .ok (.v (.dT x)) (h1.take h.length) else .stuck) Wx fun r μ1 F1 H1 _ => ∀ v, RR ca μ1 F1 H H1 v r → Q v H1 := p
      by_cases q : nrf (.dT x) = true
      · rw [if_pos q] at p'; exact plain q p'
      · rw [if_neg q] at p'; exact p'.elim
    | obj c x =>
      have p' : PostG ca b μ F H h (if nrf (.obj c x) = true then .ok (.v (.obj c x)) (h1.take h.length) else .stuck) Wx fun r μ1 F1 H1 _ => ∀ v, RR ca μ1 F1 H H1 v r → Q v H1 := p
      by_cases q : nrf (.obj c x) = true
      · rw [if_pos q] at p'; exact plain q p'
      · rw [if_neg q] at p'; exact p'.elim
    | ro x => exact plain rfl p
/-- a call, at the callee's promise -/
theorem call_post {n : Nat} {G : BD} {Wx : Nat → Hp → Prop} {b : Nat} {vs : List V} {ds : List D} {Q : VK} {E : XK} (R : RelH ca μ F h H) (hb : b ≤ h.length) (V1 : VRs ca μ F vs ds) (hn : ds.length = n)
    (hE : ∀ c H, Wx c H → E (.ref (ca.ad c)) none H) (p : PostG ca b μ F H h (callB G ds h) Wx fun r μ1 F1 H1 _ => ∀ v, RR ca μ1 F1 H H1 v r → Q v H1) : spB ca n G vs H Q E := by
  refine ⟨μ, F, h, ds, h.length, R, V1, hn, Nat.le_refl _, ?_⟩
  unfold callB at p
  cases hg : G h.length ds h with
  | next s h1 => rw [hg] at p; exact fun μ1 F1 H1 E1 R1 => exit_ok (r := .v .non) (v := .non) R hb E1 R1 (show VR ca _ _ _ _ from .non) p
  | ret r h1 => rw [hg] at p; exact fun μ1 F1 H1 v E1 R1 V => exit_ok R hb E1 R1 V p
  | exc c s h1 =>
    rw [hg] at p
    intro μ1 F1 H1 E1 R1
    obtain ⟨Rc, Ec⟩ := cut_ok R E1 R1
    exact hE _ _ (p μ F1 H1 (Ec b hb) Rc)
  | _ => rw [hg] at p; exact p.elim
end
def eCall (n : Nat) (G : BD) (xs : EA) : EX := fun τ h => (xs τ h).bind fun ds h1 => if ds.length = n then callB G ds h1 else .stuck
theorem se_call {f : Addr} {fd : FuncData} {ps : List Str} {k : Nat} {G : BD} {x : Str} {p : Pos} {es : List Expr} {xs : EA} (F : FnOk X.prog X.w X.K X.mg X.base (L2.CX X.prog X.w) k f fd ps (spB ca ps.length G)) (hr : Room k X.A) (hg : Gl X x) (hm : X.mg x = some (.ref f))
    (hk : PySem.W.keepIn X.K (.ref f) = true) (hb : Binds X.K fd ps []) (tk : Takes X W) (ha : SA ca X W (e :: es) xs) (hdb : (x == ("__debug__" : Str)) = false) (he : starEach (e :: es) X.env = (false, eval e X.env) :: starEach es X.env)
    (hpl : (backTo pos (starEach es X.env)).any (·.1) = false) : SE ca X W (.Call (.Name x p) (e :: es) [] pos) (eCall ps.length G xs) :=
  PE.imp (pe_callS F hr hg hm hk hb (fun σ => passAt tk σ) ha hdb he hpl) fun σ H Q ⟨μ, F, τ, h, A, p⟩ => ⟨μ, F, τ, h, A, p.bind.imp fun ds μ1 F1 H1 h1 E1 R1 q vs Vs => by
    by_cases hn : ds.length = ps.length
    · rw [if_pos hn] at q
      exact call_post R1 (A.ext E1 R1).bl Vs hn (fun c H z => z) (q.imp fun r μ2 F2 H2 h2 E2 R2 q2 v V => q2 v (RR.back E1 V))
    · rw [if_neg hn] at q
      exact q.elim⟩
/-! ### builtins -/
abbrev FA := List D → Own → Res R
def LkA (ca : Cn) (f : FA) (r : List V → Hp → VK → Prop) : Prop := ∀ (b : Nat) (μ : List Addr) (F H : Hp) (h : Own) (Wx : Nat → Hp → Prop) (vs : List V) (ds : List D) (Q : VK), RelH ca μ F h H → VRs ca μ F vs ds → b ≤ h.length →
  PostG ca b μ F H h (f ds h) Wx (fun r μ1 F1 H1 _ => ∀ v, RR ca μ1 F1 H H1 v r → Q v H1) → r vs H Q
def eA (f : FA) (xs : EA) : EX := fun τ h => (xs τ h).bind fun ds h1 => f ds h1
theorem se_b {f : FA} {r : List V → Hp → VK → Prop} {xs : EA} (h : PE X e (tCB r (rdA ca W xs))) (lk : LkA ca f r) : SE ca X W e (eA f xs) := PE.imp h fun σ H Q ⟨μ, F, τ, h, A, p⟩ => ⟨μ, F, τ, h, A, p.bind.imp fun ds μ1 F1 H1 h1 E1 R1 q vs Vs =>
  lk τ.b μ1 F1 H1 h1 (wx ca W σ) vs ds Q R1 Vs (A.ext E1 R1).bl (q.imp fun r μ2 F2 H2 h2 E2 R2 q2 v V => q2 v (RR.back E1 V))⟩
theorem LkA.or {f g : FA} {r s : List V → Hp → VK → Prop} (a : LkA ca f r) (b : LkA ca g s) : LkA ca (fun x h => match f x h with | .stuck => g x h | z => z) (fun x H Q => r x H Q ∨ s x H Q) := by
  intro n μ F H h Wx x c Q R V1 hb p
  cases e : f c h with
  | stuck => simp only [e] at p; exact .inr (b n μ F H h Wx x c Q R V1 hb p)
  | ok _ _ => simp only [e] at p; exact .inl (a n μ F H h Wx x c Q R V1 hb (by rw [e]; exact p))
  | exc _ _ => simp only [e] at p; exact .inl (a n μ F H h Wx x c Q R V1 hb (by rw [e]; exact p))
/-! ### methods of built-in types -/
abbrev FM := D → List D → Nat → Own → Res R
def LkM (ca : Cn) (f : FM) (r : V → List V → Hp → VK → Prop) : Prop := ∀ (b : Nat) (μ : List Addr) (F H : Hp) (h : Own) (Wx : Nat → Hp → Prop) (x : V) (d : D) (vs : List V) (ds : List D) (Q : VK), RelH ca μ F h H → VR ca μ F x d → VRs ca μ F vs ds → b ≤ h.length →
  PostG ca b μ F H h (f d ds b h) Wx (fun r μ1 F1 H1 _ => ∀ v, RR ca μ1 F1 H H1 v r → Q v H1) → r x vs H Q
/-- the receiver's type -/
def isTy (T : String) (h : Own) : D → Bool
  | .lst _ => T == "list"
  | .str _ => T == "str"
  | .dK _ => T == "dict"
  | .ref n => match h[n]? with
    | some (.lst _) => T == "list"
    | some (.dK _) => T == "dict"
    | _ => false
  | _ => false
def eM (T : String) (f : FM) (x : ED) (xs : EA) : EX := fun τ h => (x τ h).bind fun d h1 => if isTy T h1 d = true then (xs τ h1).bind fun ds h2 => f d ds τ.b h2 else .stuck
theorem isTy_ok {K : PySem.W.Frag} {T : String} {μ : List Addr} {F H : Hp} {h : Own} {v : V} {d : D} (R : RelH ca μ F h H) (V1 : VR ca μ F v d) (e : isTy T h d = true) : tyV K T v H := by
  cases V1 with
  | lst q r => have e' : (T == "list") = true := e; exact Or.inl ⟨by simpa using e', _, SqL.of (R.fz _ _ q)⟩
  | str s => have e' : (T == "str") = true := e; exact (by simpa using e' : T = "str")
  | dK q k r => have e' : (T == "dict") = true := e; exact Or.inr (Or.inr (Or.inl ⟨by simpa using e', Or.inl ⟨_, R.fz _ _ q⟩⟩))
  | ref q =>
    rename_i a n
    unfold isTy at e
    dsimp only at e
    split at e
    · rename_i ds q2
      obtain ⟨vs, q3, r3⟩ := R.ob n _ _ q q2
      exact Or.inl ⟨by simpa using e, _, SqL.of q3⟩
    · rename_i ds q2
      obtain ⟨vs, q3, k3, r3⟩ := R.ob n _ _ q q2
      exact Or.inr (Or.inr (Or.inl ⟨by simpa using e, Or.inl ⟨_, q3⟩⟩))
    · cases e
  | _ => exact (Bool.false_ne_true e).elim
theorem se_m {T : String} {f : FM} {r : V → List V → Hp → VK → Prop} {x : ED} {xs : EA} (h : PE X e (tBM X.K T r (rdD ca W x) (rdA ca W xs))) (lk : LkM ca f r) : SE ca X W e (eM T f x xs) := PE.imp h fun σ H Q ⟨μ, F, τ, h, A, p⟩ => ⟨μ, F, τ, h, A, p.bind.imp fun d μ1 F1 H1 h1 E1 R1 q v V => by
  by_cases ht : isTy T h1 d = true
  · rw [if_pos ht] at q
    exact ⟨isTy_ok R1 V ht, μ1, F1, τ, h1, A.ext E1 R1, q.bind.imp fun ds μ2 F2 H2 h2 E2 R2 q2 vs Vs => lk τ.b μ2 F2 H2 h2 (wx ca W σ) v d vs ds Q R2 (E2.vr V) Vs ((A.ext E1 R1).ext E2 R2).bl
      (q2.imp fun r μ3 F3 H3 h3 E3 R3 q3 u V3 => q3 u (RR.back E1 (RR.back E2 V3)))⟩
  · rw [if_neg ht] at q
    exact q.elim⟩
theorem se_m0 {T : String} {f : FM} {r : V → List V → Hp → VK → Prop} {x : ED} (h : PE X e (tBM0 X.K T r (rdD ca W x))) (lk : LkM ca f r) : SE ca X W e (eM T f x aNil) := PE.imp h fun σ H Q ⟨μ, F, τ, h, A, p⟩ => ⟨μ, F, τ, h, A, p.bind.imp fun d μ1 F1 H1 h1 E1 R1 q v V => by
  by_cases ht : isTy T h1 d = true
  · rw [if_pos ht] at q
    exact ⟨isTy_ok R1 V ht, lk τ.b μ1 F1 H1 h1 (wx ca W σ) v d [] [] Q R1 V .nil (A.ext E1 R1).bl (q.imp fun r μ2 F2 H2 h2 E2 R2 q2 u V2 => q2 u (RR.back E1 V2))⟩
  · rw [if_neg ht] at q
    exact q.elim⟩
end
end Z
set_option Elab.async false
set_option linter.all false
set_option maxRecDepth 100000
set_option maxHeartbeats 1000000
/-! Z9: stores; loops. -/
namespace Z
open PySem PySem.Spec L2
section
variable {ca : Cn} {X : Cx} {W : WF} {pos : Pos} {e a b c : Expr}
/-! ### o[i] = v -/
def putO (h : Own) (b n : Nat) (o : O) : Option Own := if b ≤ n ∨ nrfO o = true then some (h.set n o) else none
def fPut (b : Nat) (o i v : D) (h : Own) : Option Own := match o with
  | .ref n => match h[n]? with
    | some (.lst ds) => match i with
      | .int k => match ixN ds.length k with
        | some j => putO h b n (.lst (ds.set j v))
        | none => none
      | _ => none
    | some (.dK kds) => match asK i with
      | some k => if kds.length < sizeLine then putO h b n (.dK (putD kds k v)) else none
      | none => none
    | some (.dT kds) => match asKs i with
      | some k => if kds.length < sizeLine then putO h b n (.dT (putD kds k v)) else none
      | none => none
    | _ => none
  | _ => none
def rSetD : TSet := fun o i v H Q => ∃ p H', o = .ref p ∧ DPut H p i v H' ∧ Q H'
theorem set_dict (hu : X.A.units + 1 < cLine) : PSet X rSetD := by
  intro pins s σ H o i v ov iv u Q I ro ri rv ⟨p, H', e, g, q⟩
  subst e
  obtain rfl : ov = Value.ref p := ro
  exact d_setItem hu I g ri rv fun s' I' => ⟨H', I', q⟩
theorem PSet.or {t t' : TSet} (h : PSet X t) (h' : PSet X t') : PSet X fun o i v H Q => t o i v H Q ∨ t' o i v H Q := by
  intro pins s σ H o i v ov iv u Q I ro ri rv q
  rcases q with q | q
  · exact h pins s σ H o i v ov iv u Q I ro ri rv q
  · exact h' pins s σ H o i v ov iv u Q I ro ri rv q
def rSetA : TSet := fun o i v H Q => rSetL o i v H Q ∨ rSetD o i v H Q
theorem set_any (hu : X.A.units + 1 < cLine) : PSet X rSetA := PSet.or set_list (set_dict hu)
theorem put_ok {μ : List Addr} {F H : Hp} {h h1 : Own} {b n : Nat} {a : Addr} {o o0 : O} {u : HO} (R : RelH ca μ F h H) (e : μ[n]? = some a) (e0 : h[n]? = some o0) (n0 : stb o0 = false) (hp : putO h b n o = some h1) (ho : ∀ H', H' a = some u → OR ca μ F H' a o) :
    RelH ca μ F h1 (upd H a u) ∧ Ext b μ F H h μ F (upd H a u) h1 := by
  unfold putO at hp
  by_cases hb : b ≤ n ∨ nrfO o = true
  · rw [if_pos hb] at hp
    cases hp
    exact ⟨R.put e e0 (by rintro rfl; cases n0) ho, Ext.refl.put R e e0 n0 hb⟩
  · rw [if_neg hb] at hp; cases hp
theorem fPut_ok {μ : List Addr} {F H : Hp} {h h1 : Own} {b : Nat} {vo vi vv : V} {o i v : D} {Q : Hp → Prop} (R : RelH ca μ F h H) (Vo : VR ca μ F vo o) (Vi : VR ca μ F vi i) (Vv : VR ca μ F vv v) (e : fPut b o i v h = some h1)
    (q : ∀ H1, RelH ca μ F h1 H1 → Ext b μ F H h μ F H1 h1 → Q H1) : rSetA vo vi vv H Q := by
  cases Vo with
  | ref en =>
    rename_i a n
    unfold fPut at e
    dsimp only at e
    split at e
    · rename_i ds e0
      cases Vi with
      | int k =>
        dsimp only at e
        cases ej : ixN ds.length k with
        | none => rw [ej] at e; cases e
        | some j =>
          rw [ej] at e
          obtain ⟨vs, q1, r1⟩ := R.ob n _ _ en e0
          obtain ⟨R2, E2⟩ := put_ok R en e0 rfl e (u := .lst (vs.set j vv)) fun H' q => ⟨_, q, r1.set j Vv⟩
          exact .inl ⟨a, vs, k, j, rfl, rfl, q1, by rw [r1.length]; exact ej, q _ R2 E2⟩
      | _ => cases e
    · rename_i kds e0
      cases ek : asK i with
      | none => rw [ek] at e; cases e
      | some k =>
        rw [ek] at e
        dsimp only at e
        by_cases hl : kds.length < sizeLine
        · rw [if_pos hl] at e
          obtain ⟨kvs, q1, q2, q3⟩ := R.ob n _ _ en e0
          obtain ⟨w1, w2⟩ := vr_put k Vv q2 q3
          have hlen : kvs.length < sizeLine := by have := q3.length; rw [List.length_map, List.length_map] at this; omega
          obtain ⟨R2, E2⟩ := put_ok R en e0 rfl e (u := .dK (putK kvs k vv)) fun H' q => ⟨_, q, w1, w2⟩
          have ei := asK_ok Vi ek
          subst ei
          exact .inr ⟨a, _, rfl, DPut.k q1 hlen, q _ R2 E2⟩
        · rw [if_neg hl] at e; cases e
    · rename_i kds e0
      cases ek : asKs i with
      | none => rw [ek] at e; cases e
      | some k =>
        rw [ek] at e
        dsimp only at e
        by_cases hl : kds.length < sizeLine
        · rw [if_pos hl] at e
          obtain ⟨kvs, q1, q2, q3⟩ := R.ob n _ _ en e0
          obtain ⟨w1, w2⟩ := vr_put k Vv q2 q3
          have hlen : kvs.length < sizeLine := by have := q3.length; rw [List.length_map, List.length_map] at this; omega
          obtain ⟨R2, E2⟩ := put_ok R en e0 rfl e (u := .dT (putK kvs k vv)) fun H' q => ⟨_, q, w1, w2⟩
          obtain ⟨b', rfl, hb⟩ := asKs_ok R.fz Vi ek
          exact .inr ⟨a, _, rfl, DPut.t q1 hb hlen, q _ R2 E2⟩
        · rw [if_neg hl] at e; cases e
    · cases e
  | _ => cases e
/-- o[i] = e: the value first -/
def sPut (o i x : ED) : ST := sE x fun v τ h => sE o (fun d τ h => sE i (fun k τ h => match fPut τ.b d k v h with
  | some h1 => .next τ.s h1
  | none => .stuck) τ h) τ h
theorem ss_put {o i : Expr} {pos' : Pos} {xo xi x : ED} (hu : X.A.units + 1 < cLine) (ho : SD ca X W o xo) (hi : SD ca X W i xi) (hx : SD ca X W e x)
    (ha : ∀ v, assign (.Subscript o i pos') X.env v = (do
      let ov ← holding [v] (eval o X.env)
      let iv ← holding [v, ov] (eval i X.env)
      standAt pos'
      holding [v, ov, iv] (setItem ov iv v)
      release [v, ov, iv] [])) (hs : swapsWithSole [.Subscript o i pos'] e pos.line X.env = pure false) (hw : swappedStores [.Subscript o i pos'] e X.env = pure none)
    (h1 : (assignEach [.Subscript o i pos'] X.env).map (·.2) = [assign (.Subscript o i pos') X.env]) : SS ca X W (.Assign [.Subscript o i pos'] e pos) (sPut xo xi x) :=
  PS.imp (ps_asg hx (pg_sub ho hi (set_any hu) ha) hs hw h1) fun D σ H ⟨μ, F, τ, h, A, p⟩ => ⟨μ, F, τ, h, A, (sE_post A p).imp fun v μ1 F1 H1 h1 E1 R1 q vv Vv => by
    have A1 := A.ext E1 R1
    refine ⟨μ1, F1, τ, h1, A1, (sE_post A1 q).imp fun d μ2 F2 H2 h2 E2 R2 q2 vo Vo => ?_⟩
    have A2 := A1.ext E2 R2
    refine ⟨μ2, F2, τ, h2, A2, (sE_post A2 q2).imp fun k μ3 F3 H3 h3 E3 R3 q3 vi Vi => ?_⟩
    have A3 := A2.ext E3 R3
    cases ep : fPut τ.b d k v h3 with
    | none => rw [ep] at q3; exact q3.elim
    | some h4 =>
      rw [ep] at q3
      exact fPut_ok R3 (E3.vr Vo) Vi (E3.vr (E2.vr Vv)) ep fun H4 R4 E4 => q3 μ3 F3 H4 σ E4 R4 (E4.sr A3.sl)⟩
/-! ### o.f = v -/
def attD (i : Nat) (v : D) (fs : List D) : Option (List D) := if i < fs.length then some (fs.set i v) else if i = fs.length then some (fs ++ [v]) else none
theorem putF_set {f : Str} {v : V} : ∀ {fs : List (Str × V)} {i : Nat}, (fs.map (·.1)).Nodup → (fs.map (·.1))[i]? = some f → putF f v fs = fs.set i (f, v)
  | [], i, _, e => by simp at e
  | (g, x) :: fs, 0, nd, e => by
    simp only [List.map_cons, List.getElem?_cons_zero, Option.some.injEq] at e
    subst e
    simp [putF]
  | (g, x) :: fs, i + 1, nd, e => by
    simp only [List.map_cons, List.getElem?_cons_succ] at e
    rw [List.map_cons, List.nodup_cons] at nd
    have hne : g ≠ f := by rintro rfl; exact nd.1 (List.mem_of_getElem? e)
    rw [putF, if_neg hne, putF_set nd.2 e]
    rfl
theorem putF_new {f : Str} {v : V} : ∀ {fs : List (Str × V)}, f ∉ fs.map (·.1) → putF f v fs = fs ++ [(f, v)]
  | [], _ => rfl
  | (g, x) :: fs, h => by
    rw [List.map_cons, List.mem_cons, not_or] at h
    rw [putF, if_neg (Ne.symm h.1), putF_new h.2]
    rfl
theorem att_ok {μ : List Addr} {F : Hp} {ns : List Str} {f : Str} {i : Nat} {v : V} {d : D} {fs : List (Str × V)} {fds fds' : List D} (nd : ns.Nodup) (ei : ns[i]? = some f) (k : fs.map (·.1) = ns.take fds.length) (r : VRs ca μ F (fs.map (·.2)) fds) (rv : VR ca μ F v d)
    (e : attD i d fds = some fds') : (putF f v fs).map (·.1) = ns.take fds'.length ∧ VRs ca μ F ((putF f v fs).map (·.2)) fds' := by
  have hi : i < ns.length := (List.getElem?_eq_some_iff.mp ei).1
  have hl := r.length
  rw [List.length_map] at hl
  unfold attD at e
  by_cases h1 : i < fds.length
  · rw [if_pos h1] at e
    cases e
    have e1 : (fs.map (·.1))[i]? = some f := by rw [k, List.getElem?_take, if_pos h1]; exact ei
    rw [putF_set (by rw [k]; exact List.Nodup.sublist (List.take_sublist _ _) nd) e1]
    refine ⟨?_, ?_⟩
    · rw [List.length_set, List.map_set, ← k]
      have : (fs.map (·.1))[i]? = some f := e1
      obtain ⟨q1, q2⟩ := List.getElem?_eq_some_iff.mp this
      conv => lhs; rw [show f = (fs.map (·.1))[i] from q2.symm]
      exact List.set_getElem_self q1
    · rw [List.map_set]
      exact r.set i rv
  · rw [if_neg h1] at e
    by_cases h2 : i = fds.length
    · rw [if_pos h2] at e
      cases e
      subst h2
      have hnot : f ∉ fs.map (·.1) := by
        rw [k]
        intro hm
        obtain ⟨j, hj⟩ := List.getElem?_of_mem hm
        have hjl : j < fds.length := by
          have := (List.getElem?_eq_some_iff.mp hj).1
          rw [List.length_take] at this
          omega
        rw [List.getElem?_take, if_pos hjl] at hj
        obtain ⟨l1, q1⟩ := List.getElem?_eq_some_iff.mp hj
        obtain ⟨l2, q2⟩ := List.getElem?_eq_some_iff.mp ei
        have := (List.getElem_inj nd).mp (q1.trans q2.symm)
        omega
      rw [putF_new hnot]
      refine ⟨?_, ?_⟩
      · rw [List.map_append, k, List.length_append, List.length_singleton, List.take_add_one, ei]
        rfl
      · rw [List.map_append]
        exact r.append (.cons rv .nil)
    · rw [if_neg h2] at e; cases e
def fAtt (cs : List Nat) (i b : Nat) (o v : D) (h : Own) : Option Own := match o with
  | .ref n => match h[n]? with
    | some (.ins c fs) => if c ∈ cs ∧ fs.length < 1000 then (match attD i v fs with
      | some fs' => putO h b n (.ins c fs')
      | none => none) else none
    | _ => none
  | _ => none
def sAtt (cs : List Nat) (i : Nat) (o x : ED) : ST := sE x fun v τ h => sE o (fun d τ h => match fAtt cs i τ.b d v h with
  | some h1 => .next τ.s h1
  | none => .stuck) τ h
theorem ss_att {cs : List Nat} {i : Nat} {f : Str} {o : Expr} {pos' : Pos} {xo x : ED} (ho : SD ca X W o xo) (hx : SD ca X W e x) (hc : ∀ c ∈ cs, Cls X.K (ca.ad c) ∧ NoAttr X.K (ca.ad c) f ∧ (ca.nm c).Nodup ∧ (ca.nm c)[i]? = some f)
    (hs : swapsWith e (some (.Attribute o f pos')) pos.line X.env = pure false) : SS ca X W (.Assign [.Attribute o f pos'] e pos) (sAtt cs i xo x) :=
  PS.imp (ps_fld ho hx hs) fun D σ H ⟨μ, F, τ, h, A, p⟩ => ⟨μ, F, τ, h, A, (sE_post A p).imp fun v μ1 F1 H1 h1 E1 R1 q vv Vv => by
    have A1 := A.ext E1 R1
    refine ⟨μ1, F1, τ, h1, A1, (sE_post A1 q).imp fun d μ2 F2 H2 h2 E2 R2 q2 vo Vo => ?_⟩
    have A2 := A1.ext E2 R2
    cases ep : fAtt cs i τ.b d v h2 with
    | none => rw [ep] at q2; exact q2.elim
    | some h3 =>
      rw [ep] at q2
      cases Vo with
      | ref en =>
        rename_i a n
        unfold fAtt at ep
        dsimp only at ep
        split at ep
        · rename_i c fs e0
          by_cases hm : c ∈ cs ∧ fs.length < 1000
          · rw [if_pos hm] at ep
            cases ea : attD i v fs with
            | none => rw [ea] at ep; cases ep
            | some fs' =>
              rw [ea] at ep
              obtain ⟨dx, fvs, w1, w2, w3⟩ := R2.ob n _ _ en e0
              obtain ⟨k1, k2, k3, k4⟩ := hc c hm.1
              obtain ⟨z1, z2⟩ := att_ok k3 k4 w2 w3 (E2.vr Vv) ea
              obtain ⟨R3, E3⟩ := put_ok R2 en e0 rfl ep (u := .ins (ca.ad c) dx (putF f vv fvs)) fun H' q => ⟨dx, _, q, z1, z2⟩
              have hl := w3.length
              rw [List.length_map] at hl
              exact ⟨a, _, dx, fvs, rfl, w1, k1, k2, by omega, q2 μ2 F2 _ σ E3 R3 (E3.sr A2.sl)⟩
          · rw [if_neg hm] at ep; cases ep
        · cases ep
      | _ => cases ep⟩
/-! ### x op= e -/
theorem ss_aug {i : Nat} {n : Str} {op : Operator} {r : R2} {f : F2} {x : ED} {pos' : Pos} (hN : X.N.Nodup) (hi : X.N[i]? = some n) (hx' : Loc X.env.scope n) (hx : SD ca X W e x) (ho : OpR X (inplaceOp op) r) (lk : Lk2 ca f r)
    (hf : X.fn n = true ∨ X.env.scope.names.lookup n = some .local) : SS ca X W (.AugAssign (.Name n pos') op e pos) (sSet i (ed (e2 f (eVar i) x))) :=
  PS.imp (ps_aug hN hi hx' hx ho hf) fun D σ H ⟨μ, F, τ, h, A, p⟩ => by
    have q := sE_post A p
    cases ev : τ.s[i]? with
    | none => exact (show False from by simpa [sSet, sE, ed, e2, eVar, ev, PostS, PostG, Res.bind] using q).elim
    | some od =>
      cases od with
      | none => exact (show False from by simpa [sSet, sE, ed, e2, eVar, ev, PostS, PostG, Res.bind] using q).elim
      | some d0 =>
        obtain ⟨v0, e0, V0⟩ := A.sl.2 i d0 ev
        refine ⟨v0, e0, μ, F, τ, h, A, ?_⟩
        have hv : eVar i τ h = .ok d0 h := by unfold eVar; rw [ev]
        -- the operator's outcome, frozen, stored
        have q' : PostG ca τ.b μ F H h (ed (e2 f (eVar i) x) τ h) (wx ca W σ) fun d μ1 F1 H1 h1 => ∀ v, VR ca μ1 F1 v d → D.nx (σ.set i (some v)) H1 := q.imp fun d μ1 F1 H1 h1 E1 R1 w v V => w μ1 F1 H1 _ Ext.refl R1 ((E1.sr A.sl).set i V)
        have q2 : PostG ca τ.b μ F H h (e2 f (eVar i) x τ h) (wx ca W σ) fun r μ1 F1 H1 _ => ∀ v, RR ca μ1 F1 H H1 v r → D.nx (σ.set i (some v)) H1 := frz_post q'
        have q3 : PostG ca τ.b μ F H h ((x τ h).bind fun y h2 => f d0 y h2) (wx ca W σ) fun r μ1 F1 H1 _ => ∀ v, RR ca μ1 F1 H H1 v r → D.nx (σ.set i (some v)) H1 := by
          unfold e2 at q2
          rw [hv] at q2
          exact q2
        exact q3.bind.imp fun y μ1 F1 H1 h1 E1 R1 w v V => lk τ.b μ1 F1 H1 h1 (wx ca W σ) v0 v d0 y _ R1 (E1.vr V0) V (A.ext E1 R1).bl (w.imp fun r μ2 F2 H2 h2 E2 R2 w2 u V2 => w2 u (RR.back E1 V2))
end
end Z
set_option Elab.async false
set_option linter.all false
set_option maxRecDepth 100000
set_option maxHeartbeats 1000000
/-! Z10: loops, comprehensions. -/
namespace Z
open PySem PySem.Spec L2
section
variable {ca : Cn} {X : Cx} {W : WF} {pos : Pos} {e a b c : Expr}
/-! ### what is walked -/
/-- the own list that is walked stays as it is -/
abbrev Kp := Option (Nat × O)
def kpOk (kp : Kp) (h : Own) : Prop := ∀ n o, kp = some (n, o) → h[n]? = some o
def ItOk (ca : Cn) (ds : List D) (kp : Kp) (J : It) (μ : List Addr) (F H : Hp) (h : Own) : Prop := ∀ b μ2 F2 h2 H2, Ext b μ F H h μ2 F2 H2 h2 → RelH ca μ2 F2 h2 H2 → kpOk kp h2 → ∀ i,
  (i < ds.length → J.go i H2 ∧ ∀ x H3, J.yld i H2 x H3 → ∃ F3 d, ds[i]? = some d ∧ (∀ b, Ext b μ2 F2 H2 h2 μ2 F3 H3 h2) ∧ RelH ca μ2 F3 h2 H3 ∧ VR ca μ2 F3 x d) ∧ (ds.length ≤ i → J.stop i H2)
abbrev EI := Fm → Own → Res (List D × Kp)
def rdI (ca : Cn) (W : WF) (x : EI) : TI := fun σ H R => ∃ μ F τ h, At ca μ F τ h σ H ∧ PostG ca τ.b μ F H h (x τ h) (wx ca W σ) fun p μ1 F1 H1 h1 => kpOk p.2 h1 → ∀ J, ItOk ca p.1 p.2 J μ1 F1 H1 h1 → R J H1
def SI (ca : Cn) (X : Cx) (W : WF) (tg iter : Expr) (x : EI) : Prop := PI X tg iter (rdI ca W x)
theorem PI.imp {X : Cx} {tg e : Expr} {t t' : TI} (h : PI X tg e t) (i : ∀ σ H Q, t' σ H Q → t σ H Q) : PI X tg e t' := ⟨fun pins s σ H Q I q => h.run pins s σ H Q I (i σ H Q q)⟩
/-- a list's or tuple's items -/
def iSeq (x : ED) : EI := fun τ h => (x τ h).bind fun d h1 => match d with
  | .tup ds => .ok (ds, none) h1
  | .lst ds => .ok (ds, none) h1
  | .ref n => match h1[n]? with
    | some (.lst ds) => .ok (ds, some (n, .lst ds)) h1
    | _ => .stuck
  | _ => .stuck
def iSeqR (K : PySem.W.Frag) (tl : TE) : TI := fun σ H R => tl σ H fun x H1 => ∃ a, x = .ref a ∧ (((∃ xs, SqL K H1 a xs) ∧ R (Itl K a) H1) ∨ ((∃ xs, SqT K H1 a xs) ∧ R (Itt K a) H1))
open PyProof.Rows in
theorem pi_seq {tg l : Expr} {tl : TE} (hl : PE X l tl) : PI X tg l (iSeqR X.K tl) := by
  refine ⟨fun pins s σ H R I h => ?_⟩
  refine thn (hl.run pins s σ H _ I h) fun v s1 ⟨x, H1, I1, r1, q1⟩ => ?_
  obtain ⟨a, e, q⟩ := q1
  subst e
  cases r1
  rcases q with ⟨⟨xs, hq⟩, q⟩ | ⟨⟨xs, hq⟩, q⟩
  · obtain ⟨its, rv, p, hz⟩ := I1.list hq
    refine wpAny_pyIter_list p.isList ?_
    refine ⟨s1.heap.objs.size, [s1.heap.objs.size], _, _, H1, rfl, I1.kept (t' := s1.toks) fun b o e => Heap.get?_push_of_some _ e, turn_list a _, ⟨_, Heap.get?_push_size _ rfl, rfl, rfl⟩, fun b hb => ?_, q⟩
    have e : b = s1.heap.objs.size := by simpa using hb
    subst e
    exact I1.fpOk (Nat.le_refl _) (I1.hok.fresh (Nat.le_refl _))
  · obtain ⟨its, rv, p, hz⟩ := I1.tuple hq
    refine wpAny_pyIter_tuple (show s1.heap.IsTuple a its.toArray from p) ?_
    refine ⟨s1.heap.objs.size, [s1.heap.objs.size], _, _, H1, rfl, I1.kept (t' := s1.toks) fun b o e => Heap.get?_push_of_some _ e, turn_tuple a _, ⟨_, Heap.get?_push_size _ rfl, rfl, rfl⟩, fun b hb => ?_, q⟩
    have e : b = s1.heap.objs.size := by simpa using hb
    subst e
    exact I1.fpOk (Nat.le_refl _) (I1.hok.fresh (Nat.le_refl _))
theorem itl_ok {K : PySem.W.Frag} {ds : List D} {kp : Kp} {a : Addr} {μ : List Addr} {F H : Hp} {h : Own} (hh : ∀ b μ2 F2 h2 H2, Ext b μ F H h μ2 F2 H2 h2 → RelH ca μ2 F2 h2 H2 → kpOk kp h2 → ∃ vs, H2 a = some (.lst vs) ∧ VRs ca μ2 F2 vs ds) : ItOk ca ds kp (Itl K a) μ F H h := by
  intro b μ2 F2 h2 H2 E R hk i
  obtain ⟨vs, q, r⟩ := hh b μ2 F2 h2 H2 E R hk
  have hl := r.length
  refine ⟨fun hi => ⟨⟨vs, vs[i]'(by omega), SqL.of q, by rw [List.getElem?_eq_getElem]⟩, fun x H3 y => ?_⟩, fun hi => ⟨vs, SqL.of q, by omega⟩⟩
  obtain ⟨e, y⟩ := y
  subst e
  obtain ⟨d, e1, e2⟩ := r.getV (y vs (SqL.of q))
  exact ⟨F2, d, e1, fun b => Ext.refl, R, e2⟩
theorem itt_ok {K : PySem.W.Frag} {ds : List D} {kp : Kp} {a : Addr} {vs : List V} {μ : List Addr} {F H : Hp} {h : Own} (q : F a = some (.tup vs)) (r : VRs ca μ F vs ds) : ItOk ca ds kp (Itt K a) μ F H h := by
  intro b μ2 F2 h2 H2 E R hk i
  have q2 : H2 a = some (.tup vs) := R.fz _ _ (E.fz _ _ q)
  have r2 := E.vrs r
  have hl := r.length
  refine ⟨fun hi => ⟨⟨vs, vs[i]'(by omega), SqT.of q2, by rw [List.getElem?_eq_getElem]⟩, fun x H3 y => ?_⟩, fun hi => ⟨vs, SqT.of q2, by omega⟩⟩
  obtain ⟨e, y⟩ := y
  subst e
  obtain ⟨d, e1, e2⟩ := r2.getV (y vs (SqT.of q2))
  exact ⟨F2, d, e1, fun b => Ext.refl, R, e2⟩
theorem si_seq {tg : Expr} {x : ED} (hx : SD ca X W e x) : SI ca X W tg e (iSeq x) := PI.imp (pi_seq hx) fun σ H R ⟨μ, F, τ, h, A, p⟩ => ⟨μ, F, τ, h, A, p.bind.imp fun d μ1 F1 H1 h1 E1 R1 q v Vr => by
  cases Vr with
  | @tup a vs ds qt r => exact ⟨a, rfl, .inr ⟨⟨vs, SqT.of (R1.fz _ _ qt)⟩, q.ok R1 (fun n o z => by cases z) _ (itt_ok qt r)⟩⟩
  | @lst a vs ds qt r => exact ⟨a, rfl, .inl ⟨⟨vs, SqL.of (R1.fz _ _ qt)⟩, q.ok R1 (fun n o z => by cases z) _ (itl_ok fun b μ2 F2 h2 H2 E R hk => ⟨vs, R.fz _ _ (E.fz _ _ qt), E.vrs r⟩)⟩⟩
  | @ref a n en =>
    dsimp only at q
    split at q
    · rename_i ds e0
      obtain ⟨vs, q1, r1⟩ := R1.ob n _ _ en e0
      refine ⟨a, rfl, .inl ⟨⟨vs, SqL.of q1⟩, q.ok R1 (fun m o z => by cases z; exact e0) _ (itl_ok fun b μ2 F2 h2 H2 E R hk => ?_)⟩⟩
      exact R.ob n a _ (E.ix n a en) (hk n _ rfl)
    · exact q.elim
  | _ => exact (show False from q).elim⟩
/-- range(..) -/
def rngD (lo : Int) (n : Nat) : List D := (List.range n).map fun i => D.int (lo + (i : Nat))
theorem rngD_len (lo : Int) (n : Nat) : (rngD lo n).length = n := by simp [rngD]
theorem itr_ok {lo : Int} {n : Nat} {μ : List Addr} {F H : Hp} {h : Own} : ItOk ca (rngD lo n) none (Itr lo n) μ F H h := by
  intro b μ2 F2 h2 H2 E R hk i
  rw [rngD_len]
  refine ⟨fun hi => ⟨hi, fun x H3 y => ?_⟩, fun hi => hi⟩
  obtain ⟨e, y⟩ := y
  subst e y
  exact ⟨F2, .int (lo + i), by simp [rngD, hi], fun b => Ext.refl, R, .int _⟩
open Classical in
noncomputable def iR1 (xs : EA) : EI := fun τ h => (xs τ h).bind fun ds h1 => match ds with
  | [.int j] => if R62 j then .ok (rngD 0 j.toNat, none) h1 else .stuck
  | _ => .stuck
open Classical in
noncomputable def iR2 (xs : EA) : EI := fun τ h => (xs τ h).bind fun ds h1 => match ds with
  | [.int i, .int j] => if R62 i ∧ R62 j then .ok (rngD i (j - i).toNat, none) h1 else .stuck
  | _ => .stuck
theorem si_r1 {tg : Expr} {xs : EA} (h : PI X tg e (iRng1 (rdA ca W xs))) : SI ca X W tg e (iR1 xs) := PI.imp h fun σ H R ⟨μ, F, τ, h, A, p⟩ => ⟨μ, F, τ, h, A, p.bind.imp fun ds μ1 F1 H1 h1 E1 R1 q vs Vs => by
  split at q
  · rename_i j
    cases Vs with
    | cons V1 V2 =>
      cases V2
      cases V1
      by_cases hj : R62 j
      · rw [if_pos hj] at q
        exact ⟨j, rfl, (R62.of hj).1, (R62.of hj).2, q.ok R1 (fun n o z => by cases z) _ itr_ok⟩
      · rw [if_neg hj] at q; exact q.elim
  · exact q.elim⟩
theorem si_r2 {tg : Expr} {xs : EA} (h : PI X tg e (iRng2 (rdA ca W xs))) : SI ca X W tg e (iR2 xs) := PI.imp h fun σ H R ⟨μ, F, τ, h, A, p⟩ => ⟨μ, F, τ, h, A, p.bind.imp fun ds μ1 F1 H1 h1 E1 R1 q vs Vs => by
  split at q
  · rename_i i j
    cases Vs with
    | cons V1 V2 =>
      cases V2 with
      | cons V2 V3 =>
      cases V3
      cases V1
      cases V2
      by_cases hj : R62 i ∧ R62 j
      · rw [if_pos hj] at q
        exact ⟨i, j, rfl, ⟨(R62.of hj.1).1, (R62.of hj.1).2, (R62.of hj.2).1, (R62.of hj.2).2⟩, q.ok R1 (fun n o z => by cases z) _ itr_ok⟩
      · rw [if_neg hj] at q; exact q.elim
  · exact q.elim⟩
/-! ### for -/
def clr (cl : List Nat) (s : Sl) : Sl := cl.foldl (fun s i => s.set i none) s
theorem SR.clrs {μ : List Addr} {F : Hp} {σ : L2.St} : ∀ {cl : List Nat} {s : Sl}, SR ca μ F s σ → SR ca μ F (Z.clr cl s) σ
  | [], _, h => h
  | i :: cl, s, h => SR.clrs (cl := cl) (s := s.set i none) (h.clr i)
open Classical in
noncomputable def forGo (kp : Kp) (g : ET) (bd : ST) (cl : List Nat) (b : Nat) : List D → Sl → Own → SRes
  | [], s, h => if kpOk kp h then .next s h else .stuck
  | d :: ds, s, h => if kpOk kp h then
      match g d ⟨b, s⟩ h with
      | .next s1 h1 => match bd ⟨b, s1⟩ h1 with
        | .next s2 h2 => forGo kp g bd cl b ds (clr cl s2) h2
        | .cnt s2 h2 => forGo kp g bd cl b ds (clr cl s2) h2
        | .brk s2 h2 => .next (clr cl s2) h2
        | .ret r h2 => .ret r h2
        | .exc c s2 h2 => .exc c s2 h2
        | .stuck => .stuck
      | _ => .stuck
    else .stuck
noncomputable def sFor (it : EI) (g : ET) (bd : ST) (cl : List Nat) : ST := sE it fun p τ h => forGo p.2 g bd cl τ.b p.1 τ.s h
theorem ss_for {tg iter : Expr} {l : List Stmt} {it : EI} {g : ET} {bd : ST} (cl : List Nat) (hp : PassesOwn (model X.prog X.w) X.A X.env X.xe) (hc : X.calm = true) (hi : SI ca X W tg iter it) (hg : SG ca X W tg g) (hb : SSs ca X W l bd)
    (hs : ∀ x, foldedSetIterable iter X.env x = pure x) : SS ca X W (.For tg iter l [] pos) (sFor it g bd cl) :=
  PS.imp (ps_for hp hc hi hg hb hs) fun D σ H ⟨μ, F, τ, h, A, p⟩ => ⟨μ, F, τ, h, A, (sE_post A p).imp fun pr μ1 F1 H1 h1 E1 R1 q => by
    obtain ⟨ds, kp⟩ := pr
    intro hk J ok
    refine ⟨fun i m σ2 H2 => m = ds.length - i ∧ i ≤ ds.length ∧ ∃ μ2 F2 s2 h2, Ext τ.b μ1 F1 H1 h1 μ2 F2 H2 h2 ∧ At ca μ2 F2 ⟨τ.b, s2⟩ h2 σ2 H2 ∧ PostS ca W τ.b μ2 F2 H2 h2 (forGo kp g bd cl τ.b (ds.drop i) s2 h2) D,
      ⟨ds.length, rfl, Nat.zero_le _, μ1, F1, τ.s, h1, Ext.refl, A.ext E1 R1, q⟩, ?_⟩
    rintro i m σ2 H2 ⟨rfl, hi, μ2, F2, s2, h2, Eg, A2, w⟩
    have hi : i ≤ ds.length := hi
    have hk : kpOk kp h1 := hk
    have ok : ItOk ca ds kp J μ1 F1 H1 h1 := ok
    have hkp : kpOk kp h2 := by
      cases hd : ds.drop i with
      | nil =>
        rw [hd, forGo] at w
        by_cases z : kpOk kp h2
        · exact z
        · rw [if_neg z] at w; exact w.elim
      | cons d r =>
        rw [hd, forGo] at w
        by_cases z : kpOk kp h2
        · exact z
        · rw [if_neg z] at w; exact w.elim
    obtain ⟨k1, k2⟩ := ok τ.b μ2 F2 h2 H2 Eg A2.rel hkp i
    by_cases hlt : i < ds.length
    · obtain ⟨go, yl⟩ := k1 hlt
      refine .inr ⟨go, fun σ' H' => i + 1 ≤ ds.length ∧ ∃ μ2 F2 s2 h2, Ext τ.b μ1 F1 H1 h1 μ2 F2 H' h2 ∧ At ca μ2 F2 ⟨τ.b, s2⟩ h2 σ' H' ∧ PostS ca W τ.b μ2 F2 H' h2 (forGo kp g bd cl τ.b (ds.drop (i + 1)) s2 h2) D,
        fun σ' H' z => ⟨ds.length - (i + 1), by omega, rfl, z.1, z.2⟩, fun x H3 y => ?_⟩
      obtain ⟨F3, d, ed, E3, R3, V3⟩ := yl x H3 y
      have E3' := E3 τ.b
      have A3 : At ca μ2 F3 ⟨τ.b, s2⟩ h2 σ2 H3 := A2.ext E3' R3
      have hd : ds.drop i = d :: ds.drop (i + 1) := by
        rw [List.drop_eq_getElem_cons hlt]
        congr 1
        exact Option.some.inj ((List.getElem?_eq_getElem hlt).symm.trans ed)
      rw [hd, forGo, if_pos hkp] at w
      have w3 := w.step E3'
      cases hgd : g d ⟨τ.b, s2⟩ h2 with
      | next s4 h4 =>
        rw [hgd] at w3
        dsimp only at w3
        refine ⟨μ2, F3, ⟨τ.b, s2⟩, h2, d, A3, V3, s4, h4, hgd, fun μ4 F4 H4 σ4 E4 R4 S4 => ?_⟩
        have A4 : At ca μ4 F4 ⟨τ.b, s4⟩ h4 σ4 H4 := ⟨R4, S4, Nat.le_trans A3.bl (E4.len R3 R4)⟩
        have w4 := w3.step E4
        refine ⟨μ4, F4, ⟨τ.b, s4⟩, h4, A4, ?_⟩
        have again : ∀ {s5 : Sl} {h5 : Own} {μ5 : List Addr} {F5 H5 : Hp} {σ5 : L2.St}, Ext τ.b μ4 F4 H4 h4 μ5 F5 H5 h5 → RelH ca μ5 F5 h5 H5 → SR ca μ5 F5 s5 σ5 → PostS ca W τ.b μ4 F4 H4 h4 (forGo kp g bd cl τ.b (ds.drop (i + 1)) (clr cl s5) h5) D →
            i + 1 ≤ ds.length ∧ ∃ μ2 F2 s2 h2, Ext τ.b μ1 F1 H1 h1 μ2 F2 H5 h2 ∧ At ca μ2 F2 ⟨τ.b, s2⟩ h2 σ5 H5 ∧ PostS ca W τ.b μ2 F2 H5 h2 (forGo kp g bd cl τ.b (ds.drop (i + 1)) s2 h2) D :=
          fun {s5 h5 μ5 F5 H5 σ5} E5 R5 S5 w5 => ⟨hlt, μ5, F5, clr cl s5, h5, Eg.trans (E3'.trans (E4.trans E5)), ⟨R5, S5.clrs, Nat.le_trans A4.bl (E5.len R4 R5)⟩, w5.step E5⟩
        cases hbd : bd ⟨τ.b, s4⟩ h4 with
        | next s5 h5 => rw [hbd] at w4; exact fun μ5 F5 H5 σ5 E5 R5 S5 => again E5 R5 S5 w4
        | cnt s5 h5 => rw [hbd] at w4; exact fun μ5 F5 H5 σ5 E5 R5 S5 => again E5 R5 S5 w4
        | brk s5 h5 => rw [hbd] at w4; exact fun μ5 F5 H5 σ5 E5 R5 S5 => w4 μ5 F5 H5 σ5 E5 R5 S5.clrs
        | ret r h5 => rw [hbd] at w4; exact fun μ5 F5 H5 v E5 R5 V5 => w4 μ5 F5 H5 v E5 R5 V5
        | exc c s5 h5 => rw [hbd] at w4; exact fun μ5 F5 H5 σ5 E5 R5 S5 => w4 μ5 F5 H5 σ5 E5 R5 S5
        | stuck => rw [hbd] at w4; exact w4.elim
      | _ => rw [hgd] at w3; exact w3.elim
    · refine .inl ⟨k2 (by omega), ?_⟩
      rw [List.drop_eq_nil_of_le (by omega), forGo, if_pos hkp] at w
      exact w μ2 F2 H2 σ2 Ext.refl A2.rel A2.sl⟩
/-! ### while -/
def whGo (t : EB) (bd : ST) (cl : List Nat) (b : Nat) : Nat → Sl → Own → SRes
  | 0, _, _ => .stuck
  | n + 1, s, h => match t ⟨b, s⟩ h with
    | .ok true h1 => match bd ⟨b, s⟩ h1 with
      | .next s2 h2 => whGo t bd cl b n (clr cl s2) h2
      | .cnt s2 h2 => whGo t bd cl b n (clr cl s2) h2
      | .brk s2 h2 => .next (clr cl s2) h2
      | .ret r h2 => .ret r h2
      | .exc c s2 h2 => .exc c s2 h2
      | .stuck => .stuck
    | .ok false h1 => .next s h1
    | .exc c h1 => .exc c s h1
    | .stuck => .stuck
/-- how many turns are allowed -/
def wMax : Nat := 1000000000
def sWh (t : EB) (bd : ST) (cl : List Nat) : ST := fun τ h => whGo t bd cl τ.b wMax τ.s h
theorem ss_while {l : List Stmt} {t : EB} {bd : ST} (cl : List Nat) (hp : PassesOwn (model X.prog X.w) X.A X.env X.xe) (hc : SB ca X W c t) (hb : SSs ca X W l bd) : SS ca X W (.While c l [] pos) (sWh t bd cl) :=
  PS.imp (ps_while hp hc hb) fun D σ H ⟨μ, F, τ, h, A, p⟩ => by
    have p' : PostS ca W τ.b μ F H h (whGo t bd cl τ.b wMax τ.s h) D := p
    refine ⟨fun m σ2 H2 => ∃ μ2 F2 s2 h2, At ca μ2 F2 ⟨τ.b, s2⟩ h2 σ2 H2 ∧ PostS ca W τ.b μ2 F2 H2 h2 (whGo t bd cl τ.b m s2 h2) D, ⟨wMax, μ, F, τ.s, h, A, p'⟩, ?_⟩
    rintro m σ2 H2 ⟨μ2, F2, s2, h2, A2, w⟩
    cases m with
    | zero => exact w.elim
    | succ m =>
      rw [whGo] at w
      refine ⟨μ2, F2, ⟨τ.b, s2⟩, h2, A2, ?_⟩
      cases ht : t ⟨τ.b, s2⟩ h2 with
      | stuck => rw [ht] at w; exact w.elim
      | exc c h3 => rw [ht] at w; exact fun μ3 F3 H3 E3 R3 => w μ3 F3 H3 σ2 E3 R3 (E3.sr A2.sl)
      | ok k h3 =>
        rw [ht] at w
        intro μ3 F3 H3 E3 R3
        have A3 := A2.ext E3 R3
        cases k with
        | false => show D.nx σ2 H3; exact w μ3 F3 H3 σ2 E3 R3 (E3.sr A2.sl)
        | true =>
          show ∃ N : L2.St → Hp → Prop, (∀ σ' H', N σ' H' → ∃ m', m' < m + 1 ∧ ∃ μ2 F2 s2 h2, At ca μ2 F2 ⟨τ.b, s2⟩ h2 σ' H' ∧ PostS ca W τ.b μ2 F2 H' h2 (whGo t bd cl τ.b m' s2 h2) D) ∧ rdS ca W bd { D with nx := N, ct := N, bk := D.nx } σ2 H3
          dsimp only at w
          have w3 := w.step E3
          refine ⟨fun σ' H' => ∃ μ2 F2 s2 h2, At ca μ2 F2 ⟨τ.b, s2⟩ h2 σ' H' ∧ PostS ca W τ.b μ2 F2 H' h2 (whGo t bd cl τ.b m s2 h2) D, fun σ' H' z => ⟨m, Nat.lt_succ_self _, z⟩, μ3, F3, ⟨τ.b, s2⟩, h3, A3, ?_⟩
          have again : ∀ {s5 : Sl} {h5 : Own} {μ5 : List Addr} {F5 H5 : Hp} {σ5 : L2.St}, Ext τ.b μ3 F3 H3 h3 μ5 F5 H5 h5 → RelH ca μ5 F5 h5 H5 → SR ca μ5 F5 s5 σ5 → PostS ca W τ.b μ3 F3 H3 h3 (whGo t bd cl τ.b m (clr cl s5) h5) D →
              ∃ μ2 F2 s2 h2, At ca μ2 F2 ⟨τ.b, s2⟩ h2 σ5 H5 ∧ PostS ca W τ.b μ2 F2 H5 h2 (whGo t bd cl τ.b m s2 h2) D :=
            fun {s5 h5 μ5 F5 H5 σ5} E5 R5 S5 w5 => ⟨μ5, F5, clr cl s5, h5, ⟨R5, S5.clrs, Nat.le_trans A3.bl (E5.len R3 R5)⟩, w5.step E5⟩
          cases hbd : bd ⟨τ.b, s2⟩ h3 with
          | next s5 h5 => rw [hbd] at w3; exact fun μ5 F5 H5 σ5 E5 R5 S5 => again E5 R5 S5 w3
          | cnt s5 h5 => rw [hbd] at w3; exact fun μ5 F5 H5 σ5 E5 R5 S5 => again E5 R5 S5 w3
          | brk s5 h5 => rw [hbd] at w3; exact fun μ5 F5 H5 σ5 E5 R5 S5 => w3 μ5 F5 H5 σ5 E5 R5 S5.clrs
          | ret r h5 => rw [hbd] at w3; exact fun μ5 F5 H5 v E5 R5 V5 => w3 μ5 F5 H5 v E5 R5 V5
          | exc c s5 h5 => rw [hbd] at w3; exact fun μ5 F5 H5 σ5 E5 R5 S5 => w3 μ5 F5 H5 σ5 E5 R5 S5
          | stuck => rw [hbd] at w3; exact w3.elim
end
end Z
set_option Elab.async false
set_option linter.all false
set_option maxRecDepth 100000
set_option maxHeartbeats 1000000
/-! Z11: comprehensions. -/
namespace Z
open PySem PySem.Spec L2
section
variable {ca : Cn} {X : Cx} {W : WF} {pos : Pos} {e a b c : Expr}
abbrev W0 : WF := fun _ _ _ _ => False
theorem wipe_get {σ : L2.St} : ∀ (vs : List Nat) (j : Nat), (wipe σ vs)[j]? = if j ∈ vs ∧ j < σ.length then some none else σ[j]?
  | [], j => by simp [wipe]
  | v :: vs, j => by
    rw [wipe]
    by_cases hj : v = j
    · subst hj
      by_cases hl : v < σ.length
      · rw [List.getElem?_set_self (by rw [wipe_length]; exact hl), if_pos ⟨List.mem_cons_self, hl⟩]
      · rw [if_neg (fun z => hl z.2), List.getElem?_eq_none (by rw [List.length_set, wipe_length]; omega), List.getElem?_eq_none (by omega)]
    · rw [List.getElem?_set_ne hj, wipe_get vs j]
      by_cases hm : j ∈ vs
      · by_cases hl : j < σ.length
        · rw [if_pos ⟨hm, hl⟩, if_pos ⟨List.mem_cons_of_mem _ hm, hl⟩]
        · rw [if_neg (fun z => hl z.2), if_neg (fun z => hl z.2)]
      · rw [if_neg (fun z => hm z.1), if_neg (fun z => by rcases List.mem_cons.mp z.1 with q | q; exact hj q.symm; exact hm q)]
theorem wipe_set {σ : L2.St} {i : Nat} {x : Option V} {vs : List Nat} (h : i ∈ vs) : wipe (σ.set i x) vs = wipe σ vs := by
  apply List.ext_getElem?
  intro j
  rw [wipe_get, wipe_get, List.length_set]
  by_cases hj : j ∈ vs ∧ j < σ.length
  · rw [if_pos hj, if_pos hj]
  · rw [if_neg hj, if_neg hj]
    by_cases hi : i = j
    · subst hi
      have hl : ¬ i < σ.length := fun z => hj ⟨h, z⟩
      rw [List.getElem?_eq_none (by rw [List.length_set]; omega), List.getElem?_eq_none (by omega)]
    · rw [List.getElem?_set_ne hi]
theorem clr_len : ∀ (cl : List Nat) (s : Sl), (Z.clr cl s).length = s.length
  | [], s => rfl
  | i :: cl, s => by
    show (Z.clr cl (s.set i none)).length = _
    rw [clr_len cl, List.length_set]
theorem clr_get : ∀ (cl : List Nat) (s : Sl) (j : Nat) (d : D), (Z.clr cl s)[j]? = some (some d) → s[j]? = some (some d) ∧ j ∉ cl
  | [], s, j, d, h => ⟨h, by simp⟩
  | i :: cl, s, j, d, h => by
    obtain ⟨h1, h2⟩ := clr_get cl (s.set i none) j d h
    by_cases hi : i = j
    · subst hi
      by_cases hl : i < s.length
      · rw [List.getElem?_set_self hl] at h1; cases h1
      · rw [List.getElem?_eq_none (by rw [List.length_set]; omega)] at h1; cases h1
    · rw [List.getElem?_set_ne hi] at h1
      exact ⟨h1, by simp only [List.mem_cons, not_or]; exact ⟨fun z => hi z.symm, h2⟩⟩
theorem SR.wipe {μ : List Addr} {F : Hp} {s : Sl} {σ : L2.St} (h : SR ca μ F s σ) (vs : List Nat) : SR ca μ F (Z.clr vs s) (L2.wipe σ vs) := by
  refine ⟨by rw [clr_len, wipe_length]; exact h.1, fun i d q => ?_⟩
  obtain ⟨q1, q2⟩ := clr_get vs s i d q
  obtain ⟨v, e, r⟩ := h.2 i d q1
  exact ⟨v, by rw [wipe_get, if_neg (fun z => q2 z.1)]; exact e, r⟩
/-! ### a comprehension's targets -/
def rdGw (ca : Cn) (vs : List Nat) (g : ET) : TG := fun v σ H Q => ∃ μ F τ h d, At ca μ F τ h σ H ∧ VR ca μ F v d ∧ ∃ s1 h1, g d τ h = .next s1 h1 ∧ ∀ μ1 F1 H1 σ1, Ext τ.b μ F H h μ1 F1 H1 h1 → RelH ca μ1 F1 h1 H1 → SR ca μ1 F1 s1 σ1 → wipe σ1 vs = wipe σ vs → Q σ1 H1
def SGw (ca : Cn) (X : Cx) (vs : List Nat) (tg : Expr) (g : ET) : Prop := PG X tg (rdGw ca vs g)
def rdGws (ca : Cn) (vs : List Nat) (g : ETs) : TGs := fun ws σ H Q => ∃ μ F τ h ds, At ca μ F τ h σ H ∧ VRs ca μ F ws ds ∧ ∃ s1 h1, g ds τ h = .next s1 h1 ∧ ∀ μ1 F1 H1 σ1, Ext τ.b μ F H h μ1 F1 H1 h1 → RelH ca μ1 F1 h1 H1 → SR ca μ1 F1 s1 σ1 → wipe σ1 vs = wipe σ vs → Q σ1 H1
def SGws (ca : Cn) (X : Cx) (vs : List Nat) (tg : List Expr) (g : ETs) : Prop := PGs X tg (rdGws ca vs g)
variable {vs : List Nat}
theorem sgw_name {tg : Expr} {i : Nat} (h : PG X tg (gName i)) (hi : i ∈ vs) : SGw ca X vs tg (tN i) := PG.imp h fun v σ H Q ⟨μ, F, τ, h, d, A, V, s1, h1, e, p⟩ => by
  cases e
  exact p μ F H _ Ext.refl A.rel (A.sl.set i V) (wipe_set hi)
theorem sgws_nil : SGws ca X vs [] tNil := PGs.imp pgs_nil fun ws σ H Q ⟨μ, F, τ, h, ds, A, V, s1, h1, e, p⟩ => by
  cases V with
  | nil => cases e; exact ⟨rfl, p μ F H σ Ext.refl A.rel A.sl rfl⟩
  | cons _ _ => cases e
theorem sgws_cons {es : List Expr} {g : ET} {gs : ETs} (h1 : SGw ca X vs e g) (h2 : SGws ca X vs es gs) (hs : (assignEach (e :: es) X.env).map (·.2) = assign e X.env :: (assignEach es X.env).map (·.2)) : SGws ca X vs (e :: es) (tCons g gs) := PGs.imp (pgs_cons h1 h2 hs) fun ws σ H Q ⟨μ, F, τ, h, ds, A, V, s1, h1, e, p⟩ => by
  cases V with
  | nil => cases e
  | @cons v d ws ds r t =>
    unfold tCons at e
    dsimp only at e
    cases hg : g d τ h with
    | next s h2 =>
      rw [hg] at e
      exact ⟨_, _, rfl, μ, F, τ, h, d, A, r, s, h2, hg, fun μ1 F1 H1 σ1 E1 R1 S1 w1 => ⟨μ1, F1, ⟨τ.b, s⟩, h2, ds, ⟨R1, S1, Nat.le_trans A.bl (E1.len A.rel R1)⟩, E1.vrs t, s1, h1, e, fun μ2 F2 H2 σ2 E2 R2 S2 w2 => p μ2 F2 H2 σ2 (E1.trans E2) R2 S2 (w2.trans w1)⟩⟩
    | _ => rw [hg] at e; cases e
theorem sgw_tup {es : List Expr} {k n : Nat} {gs : ETs} (hc : X.calm = true) (h : SGws ca X vs es gs) (hl : LenOk gs n) (hn : (assignEach es X.env).length = n) (hst : (assignEach es X.env).findIdx? (·.1) = none) : SGw ca X vs (.Tuple es k pos) (tTup gs) :=
  PG.imp (pg_tup hc h hn hst) fun v σ H Q ⟨μ, F, τ, h, d, A, V, s1, h1, e, p⟩ => by
    cases V with
    | tup q r => exact ⟨_, _, rfl, SqT.of (A.rel.fz _ _ q), by rw [r.length]; exact hl _ _ _ _ _ e, μ, F, τ, h, _, A, r, s1, h1, e, p⟩
    | _ => cases e
/-! ### [x for .. if ..] -/
def bYes : EB := fun _ h => .ok true h
def STs (ca : Cn) (X : Cx) (l : List Expr) (t : EB) : Prop := PTs X l (rdB ca W0 t)
theorem PTs.imp {X : Cx} {e : List Expr} {t t' : TT} (h : PTs X e t) (i : ∀ σ H Q, t' σ H Q → t σ H Q) : PTs X e t' := ⟨fun pins s σ H Q I q => h.run pins s σ H Q I (i σ H Q q)⟩
theorem sts_nil : STs ca X [] bYes := PTs.imp pts_nil fun σ H Q ⟨μ, F, τ, h, A, p⟩ => p.ok A.rel
theorem sts_one {t : EB} (h : SB ca X W0 c t) : STs ca X [c] t := pts_one h
open Classical in
noncomputable def compGo (kp : Kp) (g : ET) (t : EB) (x : ED) (b : Nat) (s : Sl) : List D → Own → List D → Res R
  | [], h, acc => if kpOk kp h then .ok (.n (.lst acc)) h else .stuck
  | d :: ds, h, acc => if kpOk kp h then
      match g d ⟨b, s⟩ h with
      | .next s1 h1 => match t ⟨b, s1⟩ h1 with
        | .ok true h2 => match x ⟨b, s1⟩ h2 with
          | .ok y h3 => if acc.length < sizeLine then compGo kp g t x b s ds h3 (acc ++ [y]) else .stuck
          | _ => .stuck
        | .ok false h2 => compGo kp g t x b s ds h2 acc
        | _ => .stuck
      | _ => .stuck
    else .stuck
noncomputable def eComp (it : EI) (g : ET) (t : EB) (x : ED) (vs : List Nat) : EX := fun τ h => (it τ h).bind fun p h1 => compGo p.2 g t x τ.b (Z.clr vs τ.s) p.1 h1 []
theorem comp_rd {wi : TI} {it : EI} {g : ET} {t : EB} {x : ED} {σ : L2.St} {H : Hp} {Q : VK} (h : rdE ca W (eComp it g t x vs) σ H Q) : tLc (rdI ca W it) (rdGw ca vs g) (rdB ca W0 t) (rdD ca W0 x) vs σ H Q := by
  obtain ⟨μ, F, τ, h, A, p⟩ := h
  refine ⟨μ, F, τ, h, A, ?_⟩
  unfold eComp at p
  cases hit : it τ h with
  | stuck => rw [hit] at p; exact p
  | exc c h1 => rw [hit] at p; exact p
  | ok pr h1 =>
    rw [hit] at p
    obtain ⟨ds, kp⟩ := pr
    intro μ1 F1 H1 E1 R1 hk J ok D hD
    have hk : kpOk kp h1 := hk
    have ok : ItOk ca ds kp J μ1 F1 H1 h1 := ok
    have p : PostG ca τ.b μ F H h (compGo kp g t x τ.b (Z.clr vs τ.s) ds h1 []) (wx ca W σ) fun r μ1 F1 H1 _ => ∀ v, RR ca μ1 F1 H H1 v r → Q v H1 := p
    have hD0 : H D = none := E1.fresh hD
    have dF : F1 D = none := by
      cases q : F1 D with
      | none => rfl
      | some w => have := R1.fz _ _ q; rw [hD] at this; cases this
    have dM : D ∉ μ1 := fun z => R1.dom D z hD
    refine ⟨fun i m H2 => m = ds.length - i ∧ i ≤ ds.length ∧ ∃ μ2 F2 h2 ws acc, Ext τ.b μ F H h μ2 F2 H2 h2 ∧ Ext τ.b μ1 F1 H1 h1 μ2 F2 H2 h2 ∧ RelH ca μ2 F2 h2 H2 ∧ H2 D = some (.lst ws) ∧ VRs ca μ2 F2 ws acc ∧ D ∉ μ2 ∧ F2 D = none ∧
      PostG ca τ.b μ F H h (compGo kp g t x τ.b (Z.clr vs τ.s) (ds.drop i) h2 acc) (wx ca W σ) fun r μ1 F1 H1 _ => ∀ v, RR ca μ1 F1 H H1 v r → Q v H1,
      ⟨ds.length, rfl, Nat.zero_le _, μ1, F1, h1, [], [], E1.upd hD, Ext.refl.upd hD, R1.upd hD, upd_same, .nil, dM, dF, p⟩, ?_⟩
    rintro i m H2 ⟨rfl, hi, μ2, F2, h2, ws, acc, E2, Eg, R2, q2, V2, nM, nF, w⟩
    have hkp : kpOk kp h2 := by
      cases hd : ds.drop i with
      | nil =>
        rw [hd, compGo] at w
        by_cases z : kpOk kp h2
        · exact z
        · rw [if_neg z] at w; exact w.elim
      | cons d r =>
        rw [hd, compGo] at w
        by_cases z : kpOk kp h2
        · exact z
        · rw [if_neg z] at w; exact w.elim
    obtain ⟨k1, k2⟩ := ok τ.b μ2 F2 h2 H2 Eg R2 hkp i
    by_cases hlt : i < ds.length
    · obtain ⟨go, yl⟩ := k1 hlt
      refine .inr ⟨go, fun H' => i + 1 ≤ ds.length ∧ ∃ μ2 F2 h2 ws acc, Ext τ.b μ F H h μ2 F2 H' h2 ∧ Ext τ.b μ1 F1 H1 h1 μ2 F2 H' h2 ∧ RelH ca μ2 F2 h2 H' ∧ H' D = some (.lst ws) ∧ VRs ca μ2 F2 ws acc ∧ D ∉ μ2 ∧ F2 D = none ∧
          PostG ca τ.b μ F H h (compGo kp g t x τ.b (Z.clr vs τ.s) (ds.drop (i + 1)) h2 acc) (wx ca W σ) fun r μ1 F1 H1 _ => ∀ v, RR ca μ1 F1 H H1 v r → Q v H1,
        fun H' z => ⟨ds.length - (i + 1), by omega, rfl, z.1, z.2⟩, fun y H3 yy => ?_⟩
      obtain ⟨F3, d, ed, E3, R3, V3⟩ := yl y H3 yy
      have E3' := E3 τ.b
      -- what stays of the new list through a step
      have stay : ∀ {μ4 : List Addr} {F4 H4 : Hp} {h4 : Own}, Ext τ.b μ2 F2 H2 h2 μ4 F4 H4 h4 → H4 D = some (.lst ws) ∧ D ∉ μ4 ∧ F4 D = none := fun {μ4 F4 H4 h4} E => by
        refine ⟨E.frame D _ q2 nM, fun z => ?_, ?_⟩
        · obtain ⟨m, e1, e2⟩ := E.pre
          rw [e1] at z
          rcases List.mem_append.mp z with z | z
          · exact nM z
          · rw [e2 D z] at q2; cases q2
        · cases q : F4 D with
          | none => rfl
          | some u =>
            rcases E.newF D (by rw [q]; simp) with z | z | z | ⟨_, z⟩
            · exact absurd nF z
            · exact absurd z nM
            · rw [z] at q2; cases q2
            · rw [z] at q2; cases q2
      have hd : ds.drop i = d :: ds.drop (i + 1) := by
        rw [List.drop_eq_getElem_cons hlt]
        congr 1
        exact Option.some.inj ((List.getElem?_eq_getElem hlt).symm.trans ed)
      rw [hd, compGo, if_pos hkp] at w
      have hbl : τ.b ≤ h2.length := Nat.le_trans A.bl (E2.len A.rel R2)
      have S3 : SR ca μ2 F3 (Z.clr vs τ.s) (L2.wipe σ vs) := SR.wipe (E3'.sr (E2.sr A.sl)) vs
      cases hgd : g d ⟨τ.b, Z.clr vs τ.s⟩ h2 with
      | next s4 h4 =>
        rw [hgd] at w
        dsimp only at w
        refine ⟨μ2, F3, ⟨τ.b, Z.clr vs τ.s⟩, h2, d, ⟨R3, S3, hbl⟩, V3, s4, h4, hgd, fun μ4 F4 H4 σ4 E4 R4 S4 w4 => ⟨?_, ?_⟩⟩
        · rw [w4]
          apply List.ext_getElem?
          intro j
          rw [wipe_get, wipe_get, wipe_length]
          by_cases hj : j ∈ vs ∧ j < σ.length
          · rw [if_pos hj, if_pos hj]
          · rw [if_neg hj, if_neg hj]
        · have bl4 : τ.b ≤ h4.length := Nat.le_trans hbl (E4.len R3 R4)
          refine ⟨μ4, F4, ⟨τ.b, s4⟩, h4, ⟨R4, S4, bl4⟩, ?_⟩
          cases ht : t ⟨τ.b, s4⟩ h4 with
          | stuck => rw [ht] at w; exact w.elim
          | exc c h5 => rw [ht] at w; exact w.elim
          | ok k h5 =>
            rw [ht] at w
            intro μ5 F5 H5 E5 R5
            have bl5 : τ.b ≤ h5.length := Nat.le_trans bl4 (E5.len R4 R5)
            cases k with
            | false =>
              dsimp only at w
              obtain ⟨z1, z2, z3⟩ := stay (E3'.trans (E4.trans E5))
              exact ⟨hlt, μ5, F5, h5, ws, acc, E2.trans (E3'.trans (E4.trans E5)), Eg.trans (E3'.trans (E4.trans E5)), R5, z1, (E3'.trans (E4.trans E5)).vrs V2, z2, z3, w⟩
            | true =>
              dsimp only at w
              show rdD ca W0 x σ4 H5 _
              refine ⟨μ5, F5, ⟨τ.b, s4⟩, h5, ⟨R5, E5.sr S4, bl5⟩, ?_⟩
              cases hx : x ⟨τ.b, s4⟩ h5 with
              | stuck => rw [hx] at w; exact w.elim
              | exc c h6 => rw [hx] at w; exact w.elim
              | ok y6 h6 =>
                rw [hx] at w
                dsimp only at w
                by_cases hl : acc.length < sizeLine
                · rw [if_pos hl] at w
                  intro μ6 F6 H6 E6 R6 v6 V6
                  have Ea := E3'.trans (E4.trans (E5.trans E6))
                  obtain ⟨z1, z2, z3⟩ := stay Ea
                  exact ⟨ws, z1, by rw [V2.length]; exact hl, hlt, μ6, F6, h6, ws ++ [v6], acc ++ [y6], (E2.trans Ea).updFree hD0, (Eg.trans Ea).updFree hD, R6.updFree z2 z3, upd_same, (Ea.vrs V2).append (.cons V6 .nil), z2, z3, w⟩
                · rw [if_neg hl] at w; exact w.elim
      | _ => rw [hgd] at w; exact w.elim
    · refine .inl ⟨k2 (by omega), ?_⟩
      rw [List.drop_eq_nil_of_le (by omega), compGo, if_pos hkp] at w
      exact w μ2 F2 H2 E2 R2 (.ref D) ⟨D, rfl, hD0, by rw [q2]; simp, nM, nF, ws, q2, V2⟩
theorem se_lc {elt tg iter : Expr} {ifs : List Expr} {scope : Scope} {own : List (Str × Nat)} {it : EI} {g : ET} {t : EB} {x : ED} (hc : X.calm = true) (hN : X.N.Nodup) (hi : SI ca X W tg iter it) (ok : BlkOk X.N X.env.scope scope own)
    (hg : ∀ (s : Shared) (H : Hp) (C : Addr) (cl : List (Str × Addr)) (fp : List Addr), SGw ca (X.blk s H scope (compEnvC scope cl C X.env) fp) (own.map (·.2)) tg g) (ht : ∀ (s : Shared) (H : Hp) (C : Addr) (cl : List (Str × Addr)) (fp : List Addr), STs ca (X.blk s H scope (compEnvC scope cl C X.env) fp) ifs t)
    (he : ∀ (s : Shared) (H : Hp) (C : Addr) (cl : List (Str × Addr)) (fp : List Addr), SD ca (X.blk s H scope (compEnvC scope cl C X.env) fp) W0 elt x) (hs : ∀ x, foldedSetIterable iter X.env x = pure x) :
    SE ca X W (.ListComp elt [⟨tg, iter, ifs, 0⟩] scope pos) (eComp it g t x (own.map (·.2))) := PE.imp (pe_lc hc hN hi ok hg ht he hs) fun σ H Q h => comp_rd (wi := rdI ca W it) h
end
end Z
set_option Elab.async false
set_option linter.all false
set_option maxRecDepth 100000
set_option maxHeartbeats 1000000
/-! Z12: comprehensions stored, dicts made and walked, instances made. -/
namespace Z
open PySem PySem.Spec L2
section
variable {ca : Cn} {X : Cx} {W : WF} {pos : Pos} {e a b c : Expr}
theorem al_post {μ : List Addr} {F H : Hp} {h : Own} {Wx : Nat → Hp → Prop} {r : Res R} {Q : VK} {b : Nat} (R0 : RelH ca μ F h H) (hb : b ≤ h.length)
    (p : PostG ca b μ F H h (r.bind fun r h1 => match r with | .v d => .ok d h1 | .n o => .ok (.ref h1.length) (h1 ++ [o])) Wx fun d μ1 F1 H1 _ => ∀ v, VR ca μ1 F1 v d → Q v H1) :
    PostG ca b μ F H h r Wx fun r μ1 F1 H1 _ => ∀ v, RR ca μ1 F1 H H1 v r → Q v H1 := by
  cases r with
  | stuck => exact p
  | exc c h1 => exact p
  | ok r h1 =>
    intro μ1 F1 H1 E1 R1 v V
    cases r with
    | v d => exact p μ1 F1 H1 E1 R1 v V
    | n o =>
      obtain ⟨a, rfl, h0, hd, hm, hF, ho⟩ := V
      have p' : PostG ca b μ F H h (.ok (.ref h1.length) (h1 ++ [o])) Wx fun d μ1 F1 H1 _ => ∀ v, VR ca μ1 F1 v d → Q v H1 := p
      refine p' _ _ _ (E1.alloc h0 (Nat.le_trans hb (E1.len R0 R1))) (R1.alloc hd hm hF ho) _ (.ref ?_)
      rw [← R1.len]
      simp
theorem set_post {i : Nat} {x : ED} {μ : List Addr} {F H : Hp} {h : Own} {τ : Fm} {σ : L2.St} {D : Ends} (A : At ca μ F τ h σ H) (p : PostS ca W τ.b μ F H h (sSet i x τ h) D) :
    PostG ca τ.b μ F H h (x τ h) (wx ca W σ) fun d μ1 F1 H1 _ => ∀ v, VR ca μ1 F1 v d → D.nx (σ.set i (some v)) H1 :=
  (sE_post A p).imp fun d μ1 F1 H1 h1 E1 R1 w v V => w μ1 F1 H1 _ Ext.refl R1 ((E1.sr A.sl).set i V)
section
variable {i : Nat} {y : Str} {py : Pos} {elt tg iter : Expr} {ifs : List Expr} {scope : Scope} {own : List (Str × Nat)} {spos : Pos} {it : EI} {g : ET} {t : EB} {x : ED}
/-- name = [..], frozen or an own list -/
theorem ss_setLc (hc : X.calm = true) (hN : X.N.Nodup) (hy : X.N[i]? = some y) (hyl : X.env.scope.names.lookup y = some .local)
    (hsw : swapsWith (.ListComp elt [⟨tg, iter, ifs, 0⟩] scope pos) (some (.Name y py)) spos.line X.env = pure true) (hi : SI ca X W tg iter it) (ok : BlkOk X.N X.env.scope scope own)
    (hg : ∀ (s : Shared) (H : Hp) (C : Addr) (cl : List (Str × Addr)) (fp : List Addr), SGw ca (X.blk s H scope (compEnvC scope cl C X.env) fp) (own.map (·.2)) tg g) (ht : ∀ (s : Shared) (H : Hp) (C : Addr) (cl : List (Str × Addr)) (fp : List Addr), STs ca (X.blk s H scope (compEnvC scope cl C X.env) fp) ifs t)
    (he : ∀ (s : Shared) (H : Hp) (C : Addr) (cl : List (Str × Addr)) (fp : List Addr), SD ca (X.blk s H scope (compEnvC scope cl C X.env) fp) W0 elt x) (hs : ∀ x, foldedSetIterable iter X.env x = pure x) :
    SS ca X W (.Assign [.Name y py] (.ListComp elt [⟨tg, iter, ifs, 0⟩] scope pos) spos) (sSet i (ed (eComp it g t x (own.map (·.2))))) :=
  PS.imp (ps_setLc hc hN hy hyl hsw hi ok hg ht he hs) fun D σ H ⟨μ, F, τ, h, A, p⟩ => comp_rd (W := W) (wi := rdI ca W it) ⟨μ, F, τ, h, A, frz_post (set_post A p)⟩
theorem ss_newLc (hc : X.calm = true) (hN : X.N.Nodup) (hy : X.N[i]? = some y) (hyl : X.env.scope.names.lookup y = some .local)
    (hsw : swapsWith (.ListComp elt [⟨tg, iter, ifs, 0⟩] scope pos) (some (.Name y py)) spos.line X.env = pure true) (hi : SI ca X W tg iter it) (ok : BlkOk X.N X.env.scope scope own)
    (hg : ∀ (s : Shared) (H : Hp) (C : Addr) (cl : List (Str × Addr)) (fp : List Addr), SGw ca (X.blk s H scope (compEnvC scope cl C X.env) fp) (own.map (·.2)) tg g) (ht : ∀ (s : Shared) (H : Hp) (C : Addr) (cl : List (Str × Addr)) (fp : List Addr), STs ca (X.blk s H scope (compEnvC scope cl C X.env) fp) ifs t)
    (he : ∀ (s : Shared) (H : Hp) (C : Addr) (cl : List (Str × Addr)) (fp : List Addr), SD ca (X.blk s H scope (compEnvC scope cl C X.env) fp) W0 elt x) (hs : ∀ x, foldedSetIterable iter X.env x = pure x) :
    SS ca X W (.Assign [.Name y py] (.ListComp elt [⟨tg, iter, ifs, 0⟩] scope pos) spos) (sSet i (eAl (eComp it g t x (own.map (·.2))))) :=
  PS.imp (ps_setLc hc hN hy hyl hsw hi ok hg ht he hs) fun D σ H ⟨μ, F, τ, h, A, p⟩ => comp_rd (W := W) (wi := rdI ca W it) ⟨μ, F, τ, h, A, al_post A.rel A.bl (set_post A p)⟩
end
/-! ### dicts -/
def eNewK : EX := fun _ h => .ok (.n (.dK [])) h
def eNewT : EX := fun _ h => .ok (.n (.dT [])) h
theorem se_newK : SE ca X W (.Dict [] [] pos) eNewK := PE.imp pe_dnewK fun σ H Q ⟨μ, F, τ, h, A, p⟩ l hl => by
  obtain ⟨e, R1, w⟩ := neNew (b := τ.b) A.rel hl (.dK []) (o := .dK []) fun H' q => ⟨[], q, rfl, .nil⟩
  exact p _ _ _ e R1 _ w
theorem se_newT : SE ca X W (.Dict [] [] pos) eNewT := PE.imp pe_dnewT fun σ H Q ⟨μ, F, τ, h, A, p⟩ l hl => by
  obtain ⟨e, R1, w⟩ := neNew (b := τ.b) A.rel hl (.dT []) (o := .dT []) fun H' q => ⟨[], q, rfl, .nil⟩
  exact p _ _ _ e R1 _ w
/-- {k: v, ..} with keys that are ints or texts -/
abbrev EPs := Fm → Own → Res (List (Key × D))
def pNil : EPs := fun _ h => .ok [] h
def pCons (k v : ED) (r : EPs) : EPs := fun τ h => (k τ h).bind fun kd h1 => (v τ h1).bind fun d h2 => (r τ h2).bind fun ps h3 => match asK kd with
  | some kk => .ok ((kk, d) :: ps) h3
  | none => .stuck
def mergeD (kds more : List (Key × D)) : List (Key × D) := more.foldl (fun acc p => putD acc p.1 p.2) kds
def eDisp (ps : EPs) : EX := fun τ h => (ps τ h).bind fun kds h1 => if kds.length ≤ 15 then .ok (.n (.dK (mergeD [] kds))) h1 else .stuck
/-- the pairs of a display are evaluated -/
def PPd (ca : Cn) (W : WF) (trs : List (TE × TE)) (ps : EPs) : Prop := ∀ (b : Nat) (μ : List Addr) (F : Hp) (τ : Fm) (h : Own) (σ : L2.St) (H : Hp) (Q : List (V × V) → Hp → Prop), At ca μ F τ h σ H →
  PostG ca τ.b μ F H h (ps τ h) (wx ca W σ) (fun kds μ1 F1 H1 _ => ∀ kvs : List (Key × V), kvs.map (·.1) = kds.map (·.1) → VRs ca μ1 F1 (kvs.map (·.2)) (kds.map (·.2)) → Q (kvs.map fun kv => (kV kv.1, kv.2)) H1) → tPairs trs σ H Q
theorem pp_nil : PPd ca W [] pNil := fun b μ F τ h σ H Q A p => p.ok A.rel [] rfl .nil
theorem pp_cons {k v : ED} {r : EPs} {trs : List (TE × TE)} (hr : PPd ca W trs r) : PPd ca W ((rdD ca W k, rdD ca W v) :: trs) (pCons k v r) := fun b μ F τ h σ H Q A p => by
  refine ⟨μ, F, τ, h, A, p.bind.imp fun kd μ1 F1 H1 h1 E1 R1 q kv Vk => ?_⟩
  have A1 := A.ext E1 R1
  refine ⟨μ1, F1, τ, h1, A1, q.bind.imp fun d μ2 F2 H2 h2 E2 R2 q2 dv Vd => ?_⟩
  have A2 := A1.ext E2 R2
  refine hr b μ2 F2 τ h2 σ H2 _ A2 (q2.bind.imp fun ps μ3 F3 H3 h3 E3 R3 q3 kvs e r => ?_)
  cases ek : asK kd with
  | none => rw [ek] at q3; exact q3.elim
  | some kk =>
    rw [ek] at q3
    have := asK_ok Vk ek
    subst this
    exact q3.ok R3 ((kk, dv) :: kvs) (by simp [e]) (.cons (E3.vr Vd) r)
theorem merge_ok {μ : List Addr} {F : Hp} : ∀ {more : List (Key × V)} {moreD : List (Key × D)} {kvs : List (Key × V)} {kds : List (Key × D)}, more.map (·.1) = moreD.map (·.1) → VRs ca μ F (more.map (·.2)) (moreD.map (·.2)) → kvs.map (·.1) = kds.map (·.1) → VRs ca μ F (kvs.map (·.2)) (kds.map (·.2)) →
    (mergeK kvs more).map (·.1) = (mergeD kds moreD).map (·.1) ∧ VRs ca μ F ((mergeK kvs more).map (·.2)) ((mergeD kds moreD).map (·.2))
  | [], [], _, _, _, _, e, r => ⟨e, r⟩
  | [], _ :: _, _, _, h, _, _, _ => by cases h
  | _ :: _, [], _, _, h, _, _, _ => by cases h
  | (k, v) :: more, (k', d) :: moreD, kvs, kds, h, hr, e, r => by
    simp only [List.map_cons, List.cons.injEq] at h
    obtain ⟨h1, h2⟩ := h
    subst h1
    cases hr with
    | cons r1 r2 =>
      obtain ⟨w1, w2⟩ := vr_put k r1 e r
      exact merge_ok (more := more) (moreD := moreD) h2 r2 w1 w2
theorem se_disp {trs : List (TE × TE)} {keys : List (Option Expr)} {values : List Expr} {ps : EPs} (h : PE X (.Dict keys values pos) (tDisp trs)) (hp : PPd ca W trs ps) : SE ca X W (.Dict keys values pos) (eDisp ps) := PE.imp h fun σ H Q ⟨μ, F, τ, h, A, p⟩ l hl => by
  have hF : F l = none := by
    cases q : F l with
    | none => rfl
    | some w => have := A.rel.fz _ _ q; rw [hl] at this; cases this
  have hm : l ∉ μ := fun z => A.rel.dom l z hl
  have A1 : At ca μ F τ h σ (upd H l (.dK [])) := ⟨A.rel.upd hl, A.sl, A.bl⟩
  refine hp 0 μ F τ h σ _ _ A1 ?_
  have E0 : Ext τ.b μ F H h μ F (upd H l (.dK [])) h := Ext.refl.upd hl
  have p' : PostG ca τ.b μ F (upd H l (.dK [])) h (eDisp ps τ h) (wx ca W σ) fun r μ1 F1 H1 _ => ∀ v, RR ca μ1 F1 H H1 v r → Q v H1 := by
    cases hr : eDisp ps τ h with
    | stuck => rw [hr] at p; exact p.elim
    | exc c h1 => rw [hr] at p; exact fun μ1 F1 H1 E1 R1 => p μ1 F1 H1 (E0.trans E1) R1
    | ok r h1 => rw [hr] at p; exact fun μ1 F1 H1 E1 R1 => p μ1 F1 H1 (E0.trans E1) R1
  -- the display's own dict stays as it is while its pairs are evaluated
  cases hps : ps τ h with
  | stuck => unfold eDisp at p'; rw [hps] at p'; exact p'.elim
  | exc c h1 => unfold eDisp at p'; rw [hps] at p'; exact p'
  | ok kds h1 =>
    intro μ1 F1 H1 E1 R1 kvs ek ev
    unfold eDisp at p
    rw [hps] at p
    have p2 : PostG ca τ.b μ F H h (if kds.length ≤ 15 then .ok (.n (.dK (mergeD [] kds))) h1 else .stuck) (wx ca W σ) fun r μ1 F1 H1 _ => ∀ v, RR ca μ1 F1 H H1 v r → Q v H1 := p
    have hlD : H1 l = some (.dK []) := E1.frame l _ upd_same hm
    have hm1 : l ∉ μ1 := fun z => by
      obtain ⟨m, e1, e2⟩ := E1.pre
      rw [e1] at z
      rcases List.mem_append.mp z with z | z
      · exact hm z
      · have := e2 l z; rw [upd_same] at this; cases this
    have hF1 : F1 l = none := by
      cases q : F1 l with
      | none => rfl
      | some w =>
        rcases E1.newF l (by rw [q]; simp) with z | z | z | ⟨_, z⟩
        · exact absurd hF z
        · exact absurd z hm
        · rw [upd_same] at z; cases z
        · rw [upd_same] at z; cases z
    by_cases hC : kds.length ≤ 15
    · rw [if_pos hC] at p2
      have hlen : kvs.length = kds.length := by have := congrArg List.length ek; simpa using this
      obtain ⟨w1, w2⟩ := merge_ok (kvs := []) (kds := []) ek ev rfl .nil
      refine ⟨hlD, kvs, rfl, by omega, ?_⟩
      exact p2 μ1 F1 _ ((E0.trans E1).updFree hl) (R1.updFree hm1 hF1) _ ⟨l, rfl, hl, by rw [upd_same]; simp, hm1, hF1, _, upd_same, w1, w2⟩
    · rw [if_neg hC] at p2; exact p2.elim
/-! ### an own dict walked: read, not written -/
/-- the dict at the name in slot i locked -/
def lockO : O → Option O
  | .dK k => some (.lkK k)
  | .dT k => some (.lkT k)
  | _ => none
def lkAt (τ : Fm) (i : Nat) (h : Own) : Option (Nat × O × Own) := match τ.s[i]? with
  | some (some (.ref n)) => match h[n]? with
    | some o => match lockO o with
      | some o' => if τ.b ≤ n ∨ nrfO o = true then some (n, o, h.set n o') else none
      | none => none
    | none => none
  | _ => none
theorem lock_nrf {o o' : O} (e : lockO o = some o') : nrfO o' = nrfO o := by cases o <;> cases e <;> rfl
theorem lock_stb {o o' : O} (e : lockO o = some o') : stb o = false ∧ stb o' = true ∧ o ≠ .dead ∧ o' ≠ .dead := by cases o <;> cases e <;> (refine ⟨rfl, rfl, ?_, ?_⟩ <;> intro z <;> cases z)
theorem lock_or {μ : List Addr} {F H : Hp} {a : Addr} {o o' : O} (e : lockO o = some o') (h : OR ca μ F H a o) : ∃ u, H a = some u ∧ Mut (some u) ∧ ∀ od H', H' a = some (.frz od u) → OR ca μ F H' a o' := by
  cases o with
  | dK k => cases e; obtain ⟨kvs, q1, q2, q3⟩ := h; exact ⟨_, q1, True.intro, fun od H' q => ⟨od, kvs, q, q2, q3⟩⟩
  | dT k => cases e; obtain ⟨kvs, q1, q2, q3⟩ := h; exact ⟨_, q1, True.intro, fun od H' q => ⟨od, kvs, q, q2, q3⟩⟩
  | _ => cases e
theorem unlock_or {μ : List Addr} {F H : Hp} {a : Addr} {o o' : O} {u : HO} {od : Obj} (e : lockO o = some o') (h : OR ca μ F H a o') (hu : H a = some (.frz od u)) : ∀ H', H' a = some u → OR ca μ F H' a o := by
  cases o with
  | dK k => cases e; obtain ⟨od', kvs, q1, q2, q3⟩ := h; rw [hu] at q1; cases q1; exact fun H' q => ⟨kvs, q, q2, q3⟩
  | dT k => cases e; obtain ⟨od', kvs, q1, q2, q3⟩ := h; rw [hu] at q1; cases q1; exact fun H' q => ⟨kvs, q, q2, q3⟩
  | _ => cases e
/-- what is known of a lock -/
theorem lkAt_ok {μ : List Addr} {F H : Hp} {h hl : Own} {τ : Fm} {σ : L2.St} {i n : Nat} {o : O} (A : At ca μ F τ h σ H) (e : lkAt τ i h = some (n, o, hl)) :
    ∃ a o' u, μ[n]? = some a ∧ h[n]? = some o ∧ lockO o = some o' ∧ hl = h.set n o' ∧ (τ.b ≤ n ∨ nrfO o = true) ∧ H a = some u ∧ Mut (some u) ∧ ∀ od, At ca μ F τ hl σ (upd H a (.frz od u)) ∧ Ext τ.b μ F H h μ F (upd H a (.frz od u)) hl := by
  unfold lkAt at e
  cases es : τ.s[i]? with
  | none => rw [es] at e; cases e
  | some od =>
    rw [es] at e
    cases od with
    | none => cases e
    | some d =>
      cases d with
      | ref m =>
        dsimp only at e
        cases e0 : h[m]? with
        | none => rw [e0] at e; cases e
        | some o0 =>
          rw [e0] at e
          dsimp only at e
          cases el : lockO o0 with
          | none => rw [el] at e; cases e
          | some o' =>
            rw [el] at e
            dsimp only at e
            by_cases hb : τ.b ≤ m ∨ nrfO o0 = true
            · rw [if_pos hb] at e
              cases e
              obtain ⟨v, ev, V⟩ := A.sl.2 i _ es
              cases V with
              | ref en =>
                rename_i a
                obtain ⟨s1, s2, s3, s4⟩ := lock_stb el
                obtain ⟨u, hu, mu, ho⟩ := lock_or el (A.rel.ob n a o en e0)
                refine ⟨a, o', u, en, e0, el, rfl, hb, hu, mu, fun od => ?_⟩
                have R1 : RelH ca μ F (h.set n o') (upd H a (.frz od u)) := A.rel.put en e0 s3 fun H' q => ho od H' q
                have E1 : Ext τ.b μ F H h μ F (upd H a (.frz od u)) (h.set n o') := Ext.refl.put A.rel en e0 s1 (by rw [lock_nrf el]; exact hb)
                exact ⟨A.ext E1 R1, E1⟩
            · rw [if_neg hb] at e; cases e
      | _ => cases e
/-- unlocked again -/
theorem unlk_ok {b : Nat} {μ μ1 : List Addr} {F F1 H H1 : Hp} {h h1 : Own} {a : Addr} {n : Nat} {o o' : O} {u : HO} {od : Obj} (R : RelH ca μ F h H) (en : μ[n]? = some a) (e0 : h[n]? = some o) (el : lockO o = some o') (hb : b ≤ n ∨ nrfO o = true)
    (E0 : Ext b μ F H h μ F (upd H a (.frz od u)) (h.set n o')) (E1 : Ext b μ F (upd H a (.frz od u)) (h.set n o') μ1 F1 H1 h1) (R1 : RelH ca μ1 F1 h1 H1) :
    H1 a = some (.frz od u) ∧ h1[n]? = some o' ∧ RelH ca μ1 F1 (h1.set n o) (upd H1 a u) ∧ Ext b μ F H h μ1 F1 (upd H1 a u) (h1.set n o) := by
  obtain ⟨s1, s2, s3, s4⟩ := lock_stb el
  have hn : n < h.length := (List.getElem?_eq_some_iff.mp e0).1
  obtain ⟨w1, w2⟩ := E1.st n a o' en (by rw [List.getElem?_set_self hn]) s2
  have hu := w2 _ upd_same
  have en1 := E1.ix n a en
  refine ⟨hu, w1, R1.put en1 w1 s4 (unlock_or el (R1.ob n a o' en1 w1) hu), (E0.trans E1).put' R1 en1 (fun o2 q1 q2 => ?_) hb⟩
  rw [e0] at q1; cases q1
  rw [s1] at q2; cases q2
/-- a statement while the dict in slot i is locked -/
def sLk (i : Nat) (x : ST) : ST := fun τ h => match lkAt τ i h with
  | some (n, o, hl) => match x τ hl with
    | .next s h1 => .next s (h1.set n o)
    | .brk s h1 => .brk s (h1.set n o)
    | .cnt s h1 => .cnt s (h1.set n o)
    | .ret r h1 => .ret r (h1.set n o)
    | .exc _ _ _ => .stuck
    | .stuck => .stuck
  | none => .stuck
theorem ss_lk {st : Stmt} {x : ST} (i : Nat) (hx : SS ca X W0 st x) (hn : PS X st (tLock (rdS ca W0 x))) : SS ca X W st (sLk i x) := PS.imp hn fun D σ H ⟨μ, F, τ, h, A, p⟩ => by
  unfold sLk at p
  cases hl : lkAt τ i h with
  | none => rw [hl] at p; exact p.elim
  | some q =>
    obtain ⟨n, o, hl'⟩ := q
    rw [hl] at p
    dsimp only at p
    obtain ⟨a, o', u, en, e0, el, rfl, hb, hu, mu, hod⟩ := lkAt_ok A hl
    refine ⟨a, u, hu, mu, fun od => ?_⟩
    obtain ⟨A1, E0⟩ := hod od
    refine ⟨μ, F, τ, _, A1, ?_⟩
    cases hx : x τ (h.set n o') with
    | stuck => rw [hx] at p; exact p.elim
    | exc c s h1 => rw [hx] at p; exact p.elim
    | next s h1 =>
      rw [hx] at p
      intro μ1 F1 H1 σ1 E1 R1 S1
      obtain ⟨w1, w2, w3, w4⟩ := unlk_ok A.rel en e0 el hb E0 E1 R1
      exact ⟨w1, p μ1 F1 _ σ1 w4 w3 S1⟩
    | brk s h1 =>
      rw [hx] at p
      intro μ1 F1 H1 σ1 E1 R1 S1
      obtain ⟨w1, w2, w3, w4⟩ := unlk_ok A.rel en e0 el hb E0 E1 R1
      exact ⟨w1, p μ1 F1 _ σ1 w4 w3 S1⟩
    | cnt s h1 =>
      rw [hx] at p
      intro μ1 F1 H1 σ1 E1 R1 S1
      obtain ⟨w1, w2, w3, w4⟩ := unlk_ok A.rel en e0 el hb E0 E1 R1
      exact ⟨w1, p μ1 F1 _ σ1 w4 w3 S1⟩
    | ret r h1 =>
      rw [hx] at p
      intro μ1 F1 H1 v E1 R1 V1
      obtain ⟨w1, w2, w3, w4⟩ := unlk_ok A.rel en e0 el hb E0 E1 R1
      refine ⟨w1, p μ1 F1 _ v w4 w3 ?_⟩
      cases r with
      | v d => exact V1
      | n od2 =>
        obtain ⟨a2, k1, k2, k3, k4, k5, k6⟩ := V1
        have hne : a2 ≠ a := by rintro rfl; exact k4 (E1.pre.elim fun m z => by rw [z.1]; exact List.mem_append_left _ (List.mem_of_getElem? en))
        rw [upd_ne hne] at k2
        exact ⟨a2, k1, k2, by rw [upd_ne hne]; exact k3, k4, k5, k6.mono (fun _ _ z => z) (Same.refl _) fun w z => by rw [upd_ne hne]; exact z⟩
/-- an expression while the dict in slot i is locked -/
def eLk (i : Nat) (x : EX) : EX := fun τ h => match lkAt τ i h with
  | some (n, o, hl) => match x τ hl with
    | .ok r h1 => .ok r (h1.set n o)
    | _ => .stuck
  | none => .stuck
theorem se_lk {x : EX} (i : Nat) (hn : PE X e (tLockE (rdE ca W x))) : SE ca X W e (eLk i x) := PE.imp hn fun σ H Q ⟨μ, F, τ, h, A, p⟩ => by
  unfold eLk at p
  cases hl : lkAt τ i h with
  | none => rw [hl] at p; exact p.elim
  | some q =>
    obtain ⟨n, o, hl'⟩ := q
    rw [hl] at p
    dsimp only at p
    obtain ⟨a, o', u, en, e0, el, rfl, hb, hu, mu, hod⟩ := lkAt_ok A hl
    refine ⟨a, u, hu, mu, fun od => ?_⟩
    obtain ⟨A1, E0⟩ := hod od
    refine ⟨μ, F, τ, _, A1, ?_⟩
    cases hx : x τ (h.set n o') with
    | stuck => rw [hx] at p; exact p.elim
    | exc c h1 => rw [hx] at p; exact p.elim
    | ok r h1 =>
      rw [hx] at p
      intro μ1 F1 H1 E1 R1 v V1
      obtain ⟨w1, w2, w3, w4⟩ := unlk_ok A.rel en e0 el hb E0 E1 R1
      refine ⟨w1, p μ1 F1 _ w4 w3 v ?_⟩
      cases r with
      | v d => exact V1
      | n od2 =>
        obtain ⟨a2, k1, k2, k3, k4, k5, k6⟩ := V1
        have hne : a2 ≠ a := by rintro rfl; exact k4 (E1.pre.elim fun m z => by rw [z.1]; exact List.mem_append_left _ (List.mem_of_getElem? en))
        rw [upd_ne hne] at k2
        exact ⟨a2, k1, k2, by rw [upd_ne hne]; exact k3, k4, k5, k6.mono (fun _ _ z => z) (Same.refl _) fun w z => by rw [upd_ne hne]; exact z⟩
def kD : Key → D
  | .inl i => .int i
  | .inr s => .str s
theorem kD_ok {μ : List Addr} {F : Hp} (k : Key) : VR ca μ F (kV k) (kD k) := by cases k <;> constructor
/-- the keys of a locked dict -/
def iKey (x : ED) : EI := fun τ h => (x τ h).bind fun d h1 => match d with
  | .ref n => match h1[n]? with
    | some (.lkK kds) => .ok (kds.map fun p => kD p.1, some (n, .lkK kds)) h1
    | some (.lkT kds) => .ok (kds.map fun p => .tup (p.1.map kD), some (n, .lkT kds)) h1
    | _ => .stuck
  | _ => .stuck
theorem kDs_ok {μ : List Addr} {F : Hp} : ∀ ks : List Key, VRs ca μ F (ks.map kV) (ks.map kD)
  | [] => .nil
  | k :: ks => .cons (kD_ok k) (kDs_ok ks)
theorem si_key {tg : Expr} {x : ED} (hx : SD ca X W e x) : SI ca X W tg e (iKey x) := PI.imp (pi_keys hx) fun σ H R ⟨μ, F, τ, h, A, p⟩ => ⟨μ, F, τ, h, A, p.bind.imp fun d μ1 F1 H1 h1 E1 R1 q v Vr => by
  cases Vr with
  | @ref a n en =>
    dsimp only at q
    cases e0 : h1[n]? with
    | none => rw [e0] at q; exact q.elim
    | some o =>
      rw [e0] at q
      cases o with
      | lkK kds =>
        obtain ⟨od, kvs, q1, q2, q3⟩ := R1.ob n a _ en e0
        refine ⟨a, od, rfl, .inl ⟨kvs, q1, q.ok R1 (fun m o z => by cases z; exact e0) _ ?_⟩⟩
        intro b μ2 F2 h2 H2 E2 R2 hk i
        have hH := (E2.st n a _ en e0 rfl).2 _ q1
        have hl : kds.length = kvs.length := by have := congrArg List.length q2; simpa using this.symm
        refine ⟨fun hi => ⟨⟨hH, by simpa [hl] using hi⟩, fun y H3 yy => ?_⟩, fun hi => ⟨hH, by simpa [hl] using hi⟩⟩
        obtain ⟨rfl, k, v, ek, rfl⟩ := yy
        refine ⟨F2, kD k, ?_, fun b => Ext.refl, R2, kD_ok k⟩
        have : (kds.map (·.1))[i]? = some k := by rw [← q2, List.getElem?_map, ek]; rfl
        rw [List.getElem?_map] at this
        obtain ⟨p, e1, e2⟩ := Option.map_eq_some_iff.mp this
        rw [List.getElem?_map, e1]
        show some (kD p.1) = _
        rw [e2]
      | lkT kds =>
        obtain ⟨od, kvs, q1, q2, q3⟩ := R1.ob n a _ en e0
        refine ⟨a, od, rfl, .inr ⟨kvs, q1, q.ok R1 (fun m o z => by cases z; exact e0) _ ?_⟩⟩
        intro b μ2 F2 h2 H2 E2 R2 hk i
        have hH := (E2.st n a _ en e0 rfl).2 _ q1
        have hl : kds.length = kvs.length := by have := congrArg List.length q2; simpa using this.symm
        refine ⟨fun hi => ⟨⟨hH, by simpa [hl] using hi⟩, fun y H3 yy => ?_⟩, fun hi => ⟨hH, by simpa [hl] using hi⟩⟩
        obtain ⟨rfl, k, v, l, ek, rfl, hq⟩ := yy
        obtain ⟨F3, w1, w2, w3⟩ := R2.fzTup hq
        refine ⟨F3, .tup (k.map kD), ?_, w3, w2, .tup w1 (kDs_ok k)⟩
        have : (kds.map (·.1))[i]? = some k := by rw [← q2, List.getElem?_map, ek]; rfl
        rw [List.getElem?_map] at this
        obtain ⟨p, e1, e2⟩ := Option.map_eq_some_iff.mp this
        rw [List.getElem?_map, e1]
        show some (D.tup (p.1.map kD)) = _
        rw [e2]
      | _ => exact q.elim
  | _ => exact (show False from q).elim⟩
end
end Z
set_option Elab.async false
set_option linter.all false
set_option maxRecDepth 100000
set_option maxHeartbeats 1000000
/-! Z13: instances made; builtins; methods of lists. -/
namespace Z
open PySem PySem.Spec L2
section
variable {ca : Cn} {X : Cx} {W : WF} {pos : Pos} {e a b c : Expr}
/-! ### C(..) whose instance is then fixed -/
def eMk (c n : Nat) (G : BD) (xs : EA) : EX := fun τ h => (xs τ h).bind fun ds h1 => if ds.length + 1 = n then
  (match G h1.length (.ref h1.length :: ds) (h1 ++ [.ins c []]) with
  | .next _ h3 => match h3[h1.length]? with
    | some (.ins c' fs) => if nrfs fs = true then .ok (.n (.ins c' fs)) (h3.take h1.length) else .stuck
    | _ => .stuck
  | _ => .stuck) else .stuck
theorem se_mk {C f : Addr} {cn : Nat} {fd : FuncData} {ps : List Str} {k : Nat} {G : BD} {x : Str} {p : Pos} {es : List Expr} {xs : EA} (hC : ca.ad cn = C) (M : Mk X.K C f) (F : FnOk X.prog X.w X.K X.mg X.base (L2.CX X.prog X.w) k f fd ps (spB ca ps.length G)) (hr : Room (k + 1) X.A)
    (hg : Gl X x) (hm : X.mg x = some (.ref C)) (hb : Binds X.K fd ps []) (tk : Takes X W) (ha : SA ca X W (e :: es) xs) (hdb : (x == ("__debug__" : Str)) = false) (he : starEach (e :: es) X.env = (false, eval e X.env) :: starEach es X.env)
    (hpl : (backTo pos (starEach es X.env)).any (·.1) = false) : SE ca X W (.Call (.Name x p) (e :: es) [] pos) (eMk cn ps.length G xs) :=
  PE.imp (pe_make M F hr hg hm hb .nil (E := fun _ _ _ => False) (fun pins σ H s e s' I c => passes_call tk (fun _ _ _ _ z => z.elim) pins σ H s e s' I c) ha hdb he hpl) fun σ H Q ⟨μ, F, τ, h, A, p⟩ => ⟨μ, F, τ, h, A, p.bind.imp fun ds μ1 F1 H1 h1 E1 R1 q vs Vs => by
    intro x dx hx hdx hne
    have A1 := A.ext E1 R1
    by_cases hn : ds.length + 1 = ps.length
    · rw [if_pos hn] at q
      have Ea : Ext h1.length μ1 F1 H1 h1 μ1 F1 (upd (upd H1 dx (.own x)) x (.ins C dx [])) h1 := (Ext.refl.upd hdx).upd (by rw [upd_ne (Ne.symm hne)]; exact hx)
      have Ra : RelH ca μ1 F1 h1 (upd (upd H1 dx (.own x)) x (.ins C dx [])) := (R1.upd hdx).upd (by rw [upd_ne (Ne.symm hne)]; exact hx)
      have hxm : x ∉ μ1 := fun z => R1.dom x z hx
      have hxF : F1 x = none := by
        cases q : F1 x with
        | none => rfl
        | some w => have := R1.fz _ _ q; rw [hx] at this; cases this
      have E2 : Ext h1.length μ1 F1 H1 h1 (μ1 ++ [x]) F1 (upd (upd H1 dx (.own x)) x (.ins C dx [])) (h1 ++ [.ins cn []]) := Ea.alloc hx (Nat.le_refl _)
      have R2 : RelH ca (μ1 ++ [x]) F1 (h1 ++ [.ins cn []]) (upd (upd H1 dx (.own x)) x (.ins C dx [])) := Ra.alloc (by rw [upd_same]; simp) hxm hxF ⟨dx, [], by rw [upd_same, hC], rfl, .nil⟩
      have ix : (μ1 ++ [x])[h1.length]? = some x := by rw [← R1.len]; simp
      refine ⟨μ1 ++ [x], F1, h1 ++ [.ins cn []], .ref h1.length :: ds, h1.length, R2, .cons (.ref ix) (by rw [List.append_nil]; exact E2.vrs Vs), by rw [List.length_cons]; exact hn, by simp, ?_⟩
      cases hG : G h1.length (.ref h1.length :: ds) (h1 ++ [.ins cn []]) with
      | next s h3 =>
        rw [hG] at q
        intro μ3 F3 H3 E3 R3
        refine ⟨rfl, ?_⟩
        have E4 := E2.trans E3
        obtain ⟨Rc, Ec⟩ := cut_ok R1 E4 R3
        have ix3 := E3.ix _ _ ix
        dsimp only at q
        split at q
        · rename_i c' fs e3
          by_cases hf : nrfs fs = true
          · rw [if_pos hf] at q
            refine q μ1 F3 H3 (Ec τ.b A1.bl) Rc (.ref x) ⟨x, rfl, E1.fresh hx, R3.dom x (List.mem_of_getElem? ix3), hxm, R3.sep _ x _ ix3 e3 (fun z => nomatch z), (R3.ob _ x _ ix3 e3).nrf hf⟩
          · rw [if_neg hf] at q; exact q.elim
        · exact q.elim
      | _ => rw [hG] at q; exact q.elim
    · rw [if_neg hn] at q; exact q.elim⟩
/-! ### builtins -/
def fLen : FA := fun xs h => match xs with
  | [d] => match asQ h d with
    | some ds => .ok (.v (.int ds.length)) h
    | none => match d with
      | .str z => if z.length ≤ sizeLine then .ok (.v (.int z.length)) h else .stuck
      | d => match asD h d with
        | some (.k kds) => .ok (.v (.int kds.length)) h
        | _ => .stuck
  | _ => .stuck
def rLen (K : PySem.W.Frag) : List V → Hp → VK → Prop := fun xs H Q => (∃ p ys, xs = [.ref p] ∧ (SqL K H p ys ∨ SqT K H p ys) ∧ Q (.int ys.length) H) ∨ (∃ z, xs = [.str z] ∧ z.length ≤ sizeLine ∧ Q (.int z.length) H) ∨ ∃ a kvs, xs = [.ref a] ∧ Rd H a (.dK kvs) ∧ Q (.int kvs.length) H
theorem cr_len : CallR X (.builtin "len") (rLen X.K) := by
  intro pins s σ H xs us Q I r h
  rcases h with h | h | ⟨a, kvs, rfl, q, w⟩
  · exact call_len_seq pins s σ H xs us Q I r h
  · exact call_len_str pins s σ H xs us Q I r h
  · obtain ⟨u, rfl, ru⟩ := vals1 r
    obtain rfl : u = Value.ref a := ru
    exact d_len I q fun t s' I' => ⟨.int kvs.length, H, I', ⟨t, rfl⟩, w⟩
theorem VRs.one {μ : List Addr} {F : Hp} {vs : List V} {d : D} (r : VRs ca μ F vs [d]) : ∃ v, vs = [v] ∧ VR ca μ F v d := by
  cases r with
  | cons h t => cases t; exact ⟨_, rfl, h⟩
theorem lk_len {K : PySem.W.Frag} : LkA ca fLen (rLen K) := by
  intro b μ F H h Wx vs ds Q R Vs _ p
  unfold fLen at p
  split at p
  · rename_i d
    obtain ⟨v, rfl, Vr⟩ := Vs.one
    cases e1 : asQ h d with
    | some ds =>
      simp only [e1] at p
      obtain ⟨a, vs, rfl, q, r⟩ := asQ_ok R Vr e1
      refine .inl ⟨a, vs, rfl, SqQ q, ?_⟩
      rw [r.length]
      exact p.ok R _ (.int _)
    | none =>
      simp only [e1] at p
      have dict : ∀ {kds}, asD h d = some (.k kds) → PostG ca b μ F H h (.ok (.v (.int kds.length)) h) Wx (fun r μ1 F1 H1 _ => ∀ v, RR ca μ1 F1 H H1 v r → Q v H1) → rLen K [v] H Q := fun {kds} e2 p => by
        obtain ⟨a, rfl, kvs, q1, q2, q3⟩ := asD_ok R Vr e2
        refine .inr (.inr ⟨a, kvs, rfl, q1, ?_⟩)
        have : kvs.length = kds.length := by have := congrArg List.length q2; simpa using this
        rw [this]
        exact p.ok R _ (.int _)
      cases d with
      | str z =>
        cases Vr
        dsimp only at p
        by_cases hC : z.length ≤ sizeLine
        · rw [if_pos hC] at p
          exact .inr (.inl ⟨z, rfl, hC, p.ok R _ (.int _)⟩)
        · rw [if_neg hC] at p; exact p.elim
      | _ =>
        dsimp only at p
        split at p
        · rename_i kds e2
          exact dict e2 p
        · exact p.elim
  · exact p.elim
/-- list(x), tuple(x) -/
def fList : FA := fun xs h => match xs with
  | [d] => match asQ h d with
    | some ds => .ok (.n (.lst ds)) h
    | none => .stuck
  | _ => .stuck
theorem lk_list {K : PySem.W.Frag} : LkA ca fList (fun xs H Q => ∃ p ys, xs = [.ref p] ∧ (SqL K H p ys ∨ SqT K H p ys) ∧ ∀ l, H l = none → Q (.ref l) (upd H l (.lst ys))) := by
  intro b μ F H h Wx vs ds Q R Vs _ p
  unfold fList at p
  split at p
  · rename_i d
    obtain ⟨v, rfl, Vr⟩ := Vs.one
    cases e1 : asQ h d with
    | some ds =>
      simp only [e1] at p
      obtain ⟨a, vs, rfl, q, r⟩ := asQ_ok R Vr e1
      exact ⟨a, vs, rfl, SqQ q, fun l hl => new_lst R r p hl⟩
    | none => simp only [e1] at p; exact p.elim
  · exact p.elim
def fTuple : FA := fun xs h => match xs with
  | [d] => match asQ h d with
    | some ds => .ok (.v (.tup ds)) h
    | none => .stuck
  | _ => .stuck
theorem lk_tuple {K : PySem.W.Frag} : LkA ca fTuple (fun xs H Q => ∃ p ys, xs = [.ref p] ∧ ((SqL K H p ys ∧ ∀ l, H l = none → Q (.ref l) (upd H l (.tup ys))) ∨ (SqT K H p ys ∧ Q (.ref p) H))) := by
  intro b μ F H h Wx vs ds Q R Vs _ p
  unfold fTuple at p
  split at p
  · rename_i d
    obtain ⟨v, rfl, Vr⟩ := Vs.one
    have lst : ∀ {ds}, asL h d = some ds → PostG ca b μ F H h (.ok (.v (.tup ds)) h) Wx (fun r μ1 F1 H1 _ => ∀ v, RR ca μ1 F1 H H1 v r → Q v H1) → ∃ p ys, [v] = [V.ref p] ∧ ((SqL K H p ys ∧ ∀ l, H l = none → Q (.ref l) (upd H l (.tup ys))) ∨ (SqT K H p ys ∧ Q (.ref p) H)) := fun {ds} e2 p => by
      obtain ⟨a, vs, rfl, q, r⟩ := asL_ok R Vr e2
      exact ⟨a, vs, rfl, .inl ⟨SqL.of q, fun l hl => new_tup R r p hl⟩⟩
    cases e1 : asQ h d with
    | some ds =>
      simp only [e1] at p
      cases d with
      | tup es =>
        cases e1
        cases Vr with
        | tup q r => exact ⟨_, _, rfl, .inr ⟨SqT.of (R.fz _ _ q), p.ok R _ (show VR ca _ _ _ _ from .tup q r)⟩⟩
      | _ => exact lst e1 p
    | none => simp only [e1] at p; exact p.elim
  · exact p.elim
def fInt : FA := fun xs h => match xs with
  | [.int i] => .ok (.v (.int i)) h
  | [.bl k] => .ok (.v (.int (if k then 1 else 0))) h
  | _ => .stuck
theorem lk_int : LkA ca fInt (fun xs H Q => (∃ i, xs = [.int i] ∧ Q (.int i) H) ∨ ∃ k, xs = [.bl k] ∧ Q (.int (if k then 1 else 0)) H) := by
  intro b μ F H h Wx vs ds Q R Vs _ p
  unfold fInt at p
  split at p
  · obtain ⟨v, rfl, Vr⟩ := Vs.one
    cases Vr
    exact .inl ⟨_, rfl, p.ok R _ (.int _)⟩
  · obtain ⟨v, rfl, Vr⟩ := Vs.one
    cases Vr
    exact .inr ⟨_, rfl, p.ok R _ (.int _)⟩
  · exact p.elim
/-- a list of ints, of bools -/
def asI : List D → Option (List Int)
  | [] => some []
  | .int i :: ds => (asI ds).map (i :: ·)
  | _ :: _ => none
def asB : List D → Option (List Bool)
  | [] => some []
  | .bl i :: ds => (asB ds).map (i :: ·)
  | _ :: _ => none
theorem asI_eq : ∀ {ds : List D} {ns : List Int}, asI ds = some ns → ds = ns.map D.int
  | [], ns, e => by cases e; rfl
  | .int i :: ds, ns, e => by
    rw [asI] at e
    obtain ⟨ns', e1, rfl⟩ := Option.map_eq_some_iff.mp e
    rw [asI_eq e1]; rfl
  | .non :: _, _, e => by cases e
  | .bl _ :: _, _, e => by cases e
  | .str _ :: _, _, e => by cases e
  | .tup _ :: _, _, e => by cases e
  | .lst _ :: _, _, e => by cases e
  | .dK _ :: _, _, e => by cases e
  | .dT _ :: _, _, e => by cases e
  | .obj _ _ :: _, _, e => by cases e
  | .ref _ :: _, _, e => by cases e
theorem asB_eq : ∀ {ds : List D} {ns : List Bool}, asB ds = some ns → ds = ns.map D.bl
  | [], ns, e => by cases e; rfl
  | .bl i :: ds, ns, e => by
    rw [asB] at e
    obtain ⟨ns', e1, rfl⟩ := Option.map_eq_some_iff.mp e
    rw [asB_eq e1]; rfl
  | .non :: _, _, e => by cases e
  | .int _ :: _, _, e => by cases e
  | .str _ :: _, _, e => by cases e
  | .tup _ :: _, _, e => by cases e
  | .lst _ :: _, _, e => by cases e
  | .dK _ :: _, _, e => by cases e
  | .dT _ :: _, _, e => by cases e
  | .obj _ _ :: _, _, e => by cases e
  | .ref _ :: _, _, e => by cases e
@[simp] theorem asI_map (ns : List Int) : asI (ns.map D.int) = some ns := by
  induction ns with
  | nil => rfl
  | cons n ns ih => rw [List.map_cons, asI, ih]; rfl
@[simp] theorem asB_map (ns : List Bool) : asB (ns.map D.bl) = some ns := by
  induction ns with
  | nil => rfl
  | cons n ns ih => rw [List.map_cons, asB, ih]; rfl
def fInts (f : List Int → Option D) : FA := fun xs h => match xs with
  | [d] => match asL h d with
    | some ds => match asI ds with
      | some ns => match f ns with
        | some r => .ok (.v r) h
        | none => .stuck
      | none => .stuck
    | none => .stuck
  | _ => .stuck
theorem fInts_ok {f : List Int → Option D} {b : Nat} {μ : List Addr} {F H : Hp} {h : Own} {Wx : Nat → Hp → Prop} {vs : List V} {ds : List D} {Q : VK} (R : RelH ca μ F h H) (Vs : VRs ca μ F vs ds)
    (p : PostG ca b μ F H h (fInts f ds h) Wx (fun r μ1 F1 H1 _ => ∀ v, RR ca μ1 F1 H H1 v r → Q v H1)) : ∃ (a : Addr) (ns : List Int) (r : D), vs = [V.ref a] ∧ H a = some (.lst (ns.map V.int)) ∧ f ns = some r ∧ ∀ v, VR ca μ F v r → Q v H := by
  unfold fInts at p
  split at p
  · rename_i d
    obtain ⟨v, rfl, Vr⟩ := Vs.one
    cases e1 : asL h d with
    | some ds =>
      simp only [e1] at p
      obtain ⟨a, vs, rfl, q, r⟩ := asL_ok R Vr e1
      cases e2 : asI ds with
      | none => simp only [e2] at p; exact p.elim
      | some ns =>
        simp only [e2] at p
        cases e3 : f ns with
        | none => simp only [e3] at p; exact p.elim
        | some r' =>
          simp only [e3] at p
          have := asI_eq e2
          subst this
          have := r.ints
          subst this
          exact ⟨a, ns, r', rfl, q, e3, p.ok R⟩
    | none => simp only [e1] at p; exact p.elim
  · exact p.elim
def lmax : List Int → Option Int
  | [] => none
  | n :: ns => match lmax ns with
    | some m => some (if n < m then m else n)
    | none => some n
def lmin : List Int → Option Int
  | [] => none
  | n :: ns => match lmin ns with
    | some m => some (if m < n then m else n)
    | none => some n
theorem lmax_ok : ∀ {ns : List Int} {m : Int}, lmax ns = some m → m ∈ ns ∧ ∀ y ∈ ns, y ≤ m
  | [], _, e => by cases e
  | n :: ns, m, e => by
    rw [lmax] at e
    cases h : lmax ns with
    | none =>
      rw [h] at e; cases e
      cases ns with
      | nil => exact ⟨by simp, fun y hy => by simp at hy; omega⟩
      | cons a l => rw [lmax] at h; split at h <;> cases h
    | some k =>
      obtain ⟨h1, h2⟩ := lmax_ok h
      rw [h] at e
      have e' : (if n < k then k else n) = m := Option.some.inj e
      by_cases hk : n < k
      · rw [if_pos hk] at e'; subst e'
        exact ⟨List.mem_cons_of_mem _ h1, fun y hy => by rcases List.mem_cons.mp hy with rfl | hy; omega; exact h2 y hy⟩
      · rw [if_neg hk] at e'; subst e'
        exact ⟨List.mem_cons_self, fun y hy => by rcases List.mem_cons.mp hy with rfl | hy; omega; have := h2 y hy; omega⟩
theorem lmin_ok : ∀ {ns : List Int} {m : Int}, lmin ns = some m → m ∈ ns ∧ ∀ y ∈ ns, m ≤ y
  | [], _, e => by cases e
  | n :: ns, m, e => by
    rw [lmin] at e
    cases h : lmin ns with
    | none =>
      rw [h] at e; cases e
      cases ns with
      | nil => exact ⟨by simp, fun y hy => by simp at hy; omega⟩
      | cons a l => rw [lmin] at h; split at h <;> cases h
    | some k =>
      obtain ⟨h1, h2⟩ := lmin_ok h
      rw [h] at e
      have e' : (if k < n then k else n) = m := Option.some.inj e
      by_cases hk : k < n
      · rw [if_pos hk] at e'; subst e'
        exact ⟨List.mem_cons_of_mem _ h1, fun y hy => by rcases List.mem_cons.mp hy with rfl | hy; omega; exact h2 y hy⟩
      · rw [if_neg hk] at e'; subst e'
        exact ⟨List.mem_cons_self, fun y hy => by rcases List.mem_cons.mp hy with rfl | hy; omega; have := h2 y hy; omega⟩
def fSum : FA := fInts fun ns => some (.int ns.sum)
def fMax : FA := fInts fun ns => (lmax ns).map .int
def fMin : FA := fInts fun ns => (lmin ns).map .int
theorem lk_sum {K : PySem.W.Frag} : LkA ca fSum (rSum K) := fun b μ F H h Wx vs ds Q R Vs _ p => by
  obtain ⟨a, ns, r, rfl, q, e, k⟩ := fInts_ok R Vs p
  cases e
  exact ⟨a, ns, rfl, SqL.of q, k _ (.int _)⟩
theorem lk_max {K : PySem.W.Frag} : LkA ca fMax (rMax K) := fun b μ F H h Wx vs ds Q R Vs _ p => by
  obtain ⟨a, ns, r, rfl, q, e, k⟩ := fInts_ok R Vs p
  obtain ⟨m, e1, rfl⟩ := Option.map_eq_some_iff.mp e
  obtain ⟨h1, h2⟩ := lmax_ok e1
  refine ⟨a, ns, rfl, SqL.of q, List.length_pos_of_mem h1, fun m' g1 g2 => ?_⟩
  have : m' = m := Int.le_antisymm (h2 m' g1) (g2 m h1)
  subst this
  exact k _ (.int _)
theorem lk_min {K : PySem.W.Frag} : LkA ca fMin (rMin K) := fun b μ F H h Wx vs ds Q R Vs _ p => by
  obtain ⟨a, ns, r, rfl, q, e, k⟩ := fInts_ok R Vs p
  obtain ⟨m, e1, rfl⟩ := Option.map_eq_some_iff.mp e
  obtain ⟨h1, h2⟩ := lmin_ok e1
  refine ⟨a, ns, rfl, SqL.of q, List.length_pos_of_mem h1, fun m' g1 g2 => ?_⟩
  have : m' = m := Int.le_antisymm (g2 m h1) (h2 m' g1)
  subst this
  exact k _ (.int _)
def fMax2 : FA := fun xs h => match xs with
  | [.int i, .int j] => .ok (.v (.int (if j > i then j else i))) h
  | _ => .stuck
def fMin2 : FA := fun xs h => match xs with
  | [.int i, .int j] => .ok (.v (.int (if j < i then j else i))) h
  | _ => .stuck
theorem VRs.two {μ : List Addr} {F : Hp} {vs : List V} {d1 d2 : D} (r : VRs ca μ F vs [d1, d2]) : ∃ v w, vs = [v, w] ∧ VR ca μ F v d1 ∧ VR ca μ F w d2 := by
  cases r with
  | cons h t => cases t with
    | cons h2 t => cases t; exact ⟨_, _, rfl, h, h2⟩
theorem lk_max2 : LkA ca fMax2 (fun xs H Q => ∃ i j, xs = [.int i, .int j] ∧ Q (.int (if j > i then j else i)) H) := fun b μ F H h Wx vs ds Q R Vs _ p => by
  unfold fMax2 at p
  split at p
  · obtain ⟨v, w, rfl, V1, V2⟩ := Vs.two
    cases V1; cases V2
    exact ⟨_, _, rfl, p.ok R _ (.int _)⟩
  · exact p.elim
theorem lk_min2 : LkA ca fMin2 (fun xs H Q => ∃ i j, xs = [.int i, .int j] ∧ Q (.int (if j < i then j else i)) H) := fun b μ F H h Wx vs ds Q R Vs _ p => by
  unfold fMin2 at p
  split at p
  · obtain ⟨v, w, rfl, V1, V2⟩ := Vs.two
    cases V1; cases V2
    exact ⟨_, _, rfl, p.ok R _ (.int _)⟩
  · exact p.elim
def fBls (f : List Bool → Bool) : FA := fun xs h => match xs with
  | [d] => match asL h d with
    | some ds => match asB ds with
      | some ns => .ok (.v (.bl (f ns))) h
      | none => .stuck
    | none => .stuck
  | _ => .stuck
def fAny : FA := fBls fun ns => ns.any id
def fAll : FA := fBls fun ns => ns.all id
theorem fBls_ok {f : List Bool → Bool} {b : Nat} {μ : List Addr} {F H : Hp} {h : Own} {Wx : Nat → Hp → Prop} {vs : List V} {ds : List D} {Q : VK} (R : RelH ca μ F h H) (Vs : VRs ca μ F vs ds)
    (p : PostG ca b μ F H h (fBls f ds h) Wx (fun r μ1 F1 H1 _ => ∀ v, RR ca μ1 F1 H H1 v r → Q v H1)) : ∃ (a : Addr) (ns : List Bool), vs = [V.ref a] ∧ H a = some (.lst (ns.map V.bl)) ∧ Q (.bl (f ns)) H := by
  unfold fBls at p
  split at p
  · rename_i d
    obtain ⟨v, rfl, Vr⟩ := Vs.one
    cases e1 : asL h d with
    | some ds =>
      simp only [e1] at p
      obtain ⟨a, vs, rfl, q, r⟩ := asL_ok R Vr e1
      cases e2 : asB ds with
      | none => simp only [e2] at p; exact p.elim
      | some ns =>
        simp only [e2] at p
        have := asB_eq e2
        subst this
        have := r.bls
        subst this
        exact ⟨a, ns, rfl, q, p.ok R _ (.bl _)⟩
    | none => simp only [e1] at p; exact p.elim
  · exact p.elim
theorem lk_any {K : PySem.W.Frag} : LkA ca fAny (rAny K) := fun b μ F H h Wx vs ds Q R Vs _ p => by
  obtain ⟨a, ns, rfl, q, k⟩ := fBls_ok R Vs p
  exact ⟨a, ns, rfl, SqL.of q, k⟩
theorem lk_all {K : PySem.W.Frag} : LkA ca fAll (rAll K) := fun b μ F H h Wx vs ds Q R Vs _ p => by
  obtain ⟨a, ns, rfl, q, k⟩ := fBls_ok R Vs p
  exact ⟨a, ns, rfl, SqL.of q, k⟩
/-! ### sorted -/
def isort (ns : List Int) : List Int := ns.mergeSort (· ≤ ·)
theorem isort_uniq {ns ms : List Int} (hp : ms.Perm ns) (hs : ms.Pairwise (· ≤ ·)) : ms = isort ns := by
  have h1 : (isort ns).Perm ns := List.mergeSort_perm _ _
  have h2 : (isort ns).Pairwise (· ≤ ·) := by
    have := List.pairwise_mergeSort (le := fun a b : Int => decide (a ≤ b)) (fun a b c h1 h2 => by simp at *; omega) (fun a b => by simp; omega) ns
    exact this.imp fun h => by simpa using h
  exact (hp.trans h1.symm).eq_of_pairwise (fun a b _ _ h1 h2 => Int.le_antisymm h1 h2) hs h2
def keyI : List Key → Option (List Int)
  | [] => some []
  | .inl i :: ks => (keyI ks).map (i :: ·)
  | _ :: _ => none
theorem keyI_eq : ∀ {ks : List Key} {ns : List Int}, keyI ks = some ns → ks = ns.map Sum.inl
  | [], ns, e => by cases e; rfl
  | .inl i :: ks, ns, e => by
    rw [keyI] at e
    obtain ⟨ns', e1, rfl⟩ := Option.map_eq_some_iff.mp e
    rw [keyI_eq e1]; rfl
  | .inr _ :: _, _, e => by cases e
@[simp] theorem keyI_map (ns : List Int) : keyI (ns.map Sum.inl) = some ns := by
  induction ns with
  | nil => rfl
  | cons n ns ih => rw [List.map_cons, keyI, ih]; rfl
def fSortI : FA := fun xs h => match xs with
  | [d] => match asL h d with
    | some ds => match asI ds with
      | some ns => .ok (.n (.lst ((isort ns).map .int))) h
      | none => .stuck
    | none => .stuck
  | _ => .stuck
theorem lk_sortI {K : PySem.W.Frag} : LkA ca fSortI (rSortedI K) := fun b μ F H h Wx vs ds Q R Vs _ p => by
  unfold fSortI at p
  split at p
  · rename_i d
    obtain ⟨v, rfl, Vr⟩ := Vs.one
    cases e1 : asL h d with
    | some ds =>
      simp only [e1] at p
      obtain ⟨a, vs, rfl, q, r⟩ := asL_ok R Vr e1
      cases e2 : asI ds with
      | none => simp only [e2] at p; exact p.elim
      | some ns =>
        simp only [e2] at p
        have := asI_eq e2
        subst this
        have := r.ints
        subst this
        refine ⟨a, ns, rfl, SqL.of q, fun ms l h1 h2 hl => ?_⟩
        rw [isort_uniq h1 h2]
        exact new_lst R (VRs.of_ints _) p hl
    | none => simp only [e1] at p; exact p.elim
  · exact p.elim
def fSortD : FA := fun xs h => match xs with
  | [d] => match asD h d with
    | some (.k kds) => match keyI (kds.map (·.1)) with
      | some ns => if ns.length < 64 then .ok (.n (.lst ((isort ns).map .int))) h else .stuck
      | none => .stuck
    | _ => .stuck
  | _ => .stuck
def rSortD : List V → Hp → VK → Prop := fun xs H Q => ∃ (a : Addr) (kvs : List (Key × V)) (ks : List Int), xs = [.ref a] ∧ Rd H a (.dK kvs) ∧ kvs.map (·.1) = ks.map Sum.inl ∧ ks.length < 64 ∧
    ∀ (ys : List Int) (p : Addr), ys.Perm ks → ys.Pairwise (· ≤ ·) → H p = none → Q (.ref p) (upd H p (.lst (ys.map V.int)))
theorem lk_sortD : LkA ca fSortD rSortD := fun b μ F H h Wx vs ds Q R Vs _ p => by
  unfold fSortD at p
  split at p
  · rename_i d
    obtain ⟨v, rfl, Vr⟩ := Vs.one
    split at p
    · rename_i kds e1
      obtain ⟨a, rfl, kvs, q1, q2, q3⟩ := asD_ok R Vr e1
      cases e2 : keyI (kds.map (·.1)) with
      | none => simp only [e2] at p; exact p.elim
      | some ns =>
        simp only [e2] at p
        by_cases hC : ns.length < 64
        · rw [if_pos hC] at p
          refine ⟨a, kvs, ns, rfl, q1, by rw [q2]; exact keyI_eq e2, hC, fun ms l h1 h2 hl => ?_⟩
          rw [isort_uniq h1 h2]
          exact new_lst R (VRs.of_ints _) p hl
        · rw [if_neg hC] at p; exact p.elim
    · exact p.elim
  · exact p.elim
def orA (f g : FA) : FA := fun x h => match f x h with | .stuck => g x h | z => z
def fSorted : FA := orA fSortI fSortD
theorem cr_sorted' (hc : X.calm = true) : CallR X (.builtin "sorted") (fun xs H Q => rSortedI X.K xs H Q ∨ rSortD xs H Q) := cr_sortedI.or (call_sortedDI hc)
theorem lk_sorted {K : PySem.W.Frag} : LkA ca fSorted (fun xs H Q => rSortedI K xs H Q ∨ rSortD xs H Q) := lk_sortI.or lk_sortD
/-! ### isinstance -/
def tyD (h : Own) : D → Option String
  | .non => some "NoneType"
  | .bl _ => some "bool"
  | .int _ => some "int"
  | .str _ => some "str"
  | .tup _ => some "tuple"
  | .lst _ => some "list"
  | .dK _ => some "dict"
  | .dT _ => some "dict"
  | .ref n => match h[n]? with
    | some (.lst _) => some "list"
    | some (.dK _) => some "dict"
    | some (.dT _) => some "dict"
    | _ => none
  | _ => none
theorem tyD_ok {K : PySem.W.Frag} {μ : List Addr} {F H : Hp} {h : Own} {v : V} {d : D} {T : String} (R : RelH ca μ F h H) (V1 : VR ca μ F v d) (e : tyD h d = some T) : TyX K H v (.type T) := by
  cases V1 with
  | non => cases e; exact .base .non
  | bl => cases e; exact .base (.bl _)
  | int => cases e; exact .base (.int _)
  | str => cases e; exact .base (.str _)
  | tup q r => cases e; exact .base (.tup (R.fz _ _ q))
  | lst q r => cases e; exact .base (.lst (R.fz _ _ q))
  | dK q k r => cases e; exact .base (.dK (R.fz _ _ q))
  | dT q k r => cases e; exact .base (.dT (R.fz _ _ q))
  | obj => cases e
  | ro a => cases e
  | ref q =>
    rename_i a n
    unfold tyD at e
    dsimp only at e
    split at e
    · rename_i ds q2
      cases e
      obtain ⟨vs, q3, r3⟩ := R.ob n _ _ q q2
      exact .base (.lst q3)
    · rename_i ds q2
      cases e
      obtain ⟨vs, q3, r3⟩ := R.ob n _ _ q q2
      exact .base (.dK q3)
    · rename_i ds q2
      cases e
      obtain ⟨vs, q3, r3⟩ := R.ob n _ _ q q2
      exact .base (.dT q3)
    · cases e
def eIsI (T : String) (x : ED) : ED := fun τ h => (x τ h).bind fun d h1 => match tyD h1 d with
  | some t => match kitB t T with
    | some k => .ok (.bl k) h1
    | none => .stuck
  | none => .stuck
theorem sd_isi {T : String} {x : ED} (h : PE X e (tCB (rIsi X.K) (L2.tCons (rdD ca W x) (L2.tCons (tC (.ty T)) L2.tNil)))) : SD ca X W e (eIsI T x) := PE.imp h fun σ H Q ⟨μ, F, τ, h, A, p⟩ => ⟨μ, F, τ, h, A, p.bind.imp fun d μ1 F1 H1 h1 E1 R1 q v Vr => by
  cases e1 : tyD h1 d with
  | none => rw [e1] at q; exact q.elim
  | some t =>
    rw [e1] at q
    dsimp only at q
    cases e2 : kitB t T with
    | none => rw [e2] at q; exact q.elim
    | some k =>
      rw [e2] at q
      exact ⟨v, .ty T, _, .type T, k, rfl, .ty T, tyD_ok R1 Vr e1, kit_ty e2, q.ok R1 _ (.bl _)⟩⟩
/-! ### methods of lists -/
def ownL (h : Own) : D → Option (Nat × List D)
  | .ref n => match h[n]? with
    | some (.lst ds) => some (n, ds)
    | _ => none
  | _ => none
theorem ownL_ok {μ : List Addr} {F H : Hp} {h : Own} {v : V} {d : D} {n : Nat} {ds : List D} (R : RelH ca μ F h H) (V1 : VR ca μ F v d) (e : ownL h d = some (n, ds)) : ∃ a vs, v = .ref a ∧ μ[n]? = some a ∧ h[n]? = some (.lst ds) ∧ H a = some (.lst vs) ∧ VRs ca μ F vs ds := by
  cases V1 with
  | ref q =>
    rename_i a m
    unfold ownL at e
    dsimp only at e
    split at e
    · rename_i ds' q2
      cases e
      obtain ⟨vs, q3, r3⟩ := R.ob _ _ _ q q2
      exact ⟨a, vs, rfl, q, q2, q3, r3⟩
    · cases e
  | _ => cases e
/-- an own list becomes another; what is handed back -/
def chL (f : List D → List D → Option (List D × D)) : FM := fun d xs b h => match ownL h d with
  | some (n, ds) => match f ds xs with
    | some (ds', r) => match putO h b n (.lst ds') with
      | some h' => .ok (.v r) h'
      | none => .stuck
    | none => .stuck
  | none => .stuck
theorem chL_ok {f : List D → List D → Option (List D × D)} {b : Nat} {μ : List Addr} {F H : Hp} {h : Own} {Wx : Nat → Hp → Prop} {x : V} {d : D} {vs : List V} {es : List D} {Q : VK} (R : RelH ca μ F h H) (V1 : VR ca μ F x d)
    (p : PostG ca b μ F H h (chL f d es b h) Wx (fun r μ1 F1 H1 _ => ∀ v, RR ca μ1 F1 H H1 v r → Q v H1)) :
    ∃ (a : Addr) (ws : List V) (ds ds' : List D) (r : D), x = .ref a ∧ H a = some (.lst ws) ∧ VRs ca μ F ws ds ∧ f ds es = some (ds', r) ∧ ∀ ws' v, VRs ca μ F ws' ds' → VR ca μ F v r → Q v (upd H a (.lst ws')) := by
  unfold chL at p
  cases e1 : ownL h d with
  | none => rw [e1] at p; exact p.elim
  | some q =>
    obtain ⟨n, ds⟩ := q
    rw [e1] at p
    dsimp only at p
    obtain ⟨a, ws, rfl, en, e0, q1, r1⟩ := ownL_ok R V1 e1
    cases e2 : f ds es with
    | none => rw [e2] at p; exact p.elim
    | some q2 =>
      obtain ⟨ds', r⟩ := q2
      rw [e2] at p
      dsimp only at p
      cases e3 : putO h b n (.lst ds') with
      | none => rw [e3] at p; exact p.elim
      | some h' =>
        rw [e3] at p
        refine ⟨a, ws, ds, ds', r, rfl, q1, r1, e2, fun ws' v rw' rv => ?_⟩
        obtain ⟨R2, E2⟩ := put_ok R en e0 rfl e3 (u := .lst ws') fun H' q => ⟨_, q, rw'⟩
        exact p μ F _ E2 R2 v (show VR ca _ _ _ _ from rv)
def fAppend : FM := chL fun ds xs => match xs with
  | [x] => if ds.length < sizeLine then some (ds ++ [x], .non) else none
  | _ => none
theorem lk_append : LkM ca fAppend rAppend := fun b μ F H h Wx x d vs ds Q R V1 Vs _ p => by
  obtain ⟨a, ws, ds0, ds', r, rfl, q, r1, e, k⟩ := chL_ok (vs := vs) R V1 p
  split at e
  · rename_i y
    obtain ⟨v, rfl, Vr⟩ := Vs.one
    by_cases hl : ds0.length < sizeLine
    · rw [if_pos hl] at e
      cases e
      exact ⟨a, ws, v, rfl, rfl, q, by rw [r1.length]; exact hl, k _ _ (r1.append (.cons Vr .nil)) .non⟩
    · rw [if_neg hl] at e; cases e
  · cases e
def fPop : FM := chL fun ds xs => match xs with
  | [] => match ds[ds.length - 1]? with
    | some y => some (ds.dropLast, y)
    | none => none
  | _ => none
theorem VRs.dropLast {μ : List Addr} {F : Hp} {vs : List V} {ds : List D} (r : VRs ca μ F vs ds) : VRs ca μ F vs.dropLast ds.dropLast := by
  rw [List.dropLast_eq_take, List.dropLast_eq_take, r.length]
  exact r.take _
theorem lk_pop : LkM ca fPop rPop := fun b μ F H h Wx x d vs ds Q R V1 Vs _ p => by
  obtain ⟨a, ws, ds0, ds', r, rfl, q, r1, e, k⟩ := chL_ok (vs := vs) R V1 p
  split at e
  · cases Vs
    split at e
    · rename_i y ey
      cases e
      obtain ⟨v, ev, Vr⟩ := r1.get ey
      exact ⟨a, ws, v, rfl, rfl, q, by rw [r1.length]; exact ev, k _ _ r1.dropLast Vr⟩
    · cases e
  · cases e
open Classical in
noncomputable def fPopAt : FM := chL fun ds xs => match xs with
  | [.int i] => if R63 i then match ixN ds.length i with
    | some k => match ds[k]? with
      | some y => some (ds.eraseIdx k, y)
      | none => none
    | none => none else none
  | _ => none
theorem lk_popAt : LkM ca fPopAt rPopAt := fun b μ F H h Wx x d vs ds Q R V1 Vs _ p => by
  obtain ⟨a, ws, ds0, ds', r, rfl, q, r1, e, k⟩ := chL_ok (vs := vs) R V1 p
  split at e
  · rename_i i
    obtain ⟨v, rfl, Vi⟩ := Vs.one
    cases Vi
    by_cases hi : R63 i
    · rw [if_pos hi] at e
      cases ek : ixN ds0.length i with
      | none => rw [ek] at e; cases e
      | some j =>
        rw [ek] at e
        dsimp only at e
        split at e
        · rename_i y ey
          cases e
          obtain ⟨v, ev, Vr⟩ := r1.get ey
          refine ⟨a, ws, i, j, v, rfl, rfl, q, (R63.of hi).1, (R63.of hi).2, ?_, ev, k _ _ (r1.eraseIdx j) Vr⟩
          rw [r1.length]
          exact (ixN_seq ek).1
        · cases e
    · rw [if_neg hi] at e; cases e
  · cases e
def fReverse : FM := chL fun ds xs => match xs with
  | [] => some (ds.reverse, .non)
  | _ => none
theorem lk_reverse : LkM ca fReverse rReverse := fun b μ F H h Wx x d vs ds Q R V1 Vs _ p => by
  obtain ⟨a, ws, ds0, ds', r, rfl, q, r1, e, k⟩ := chL_ok (vs := vs) R V1 p
  split at e
  · cases Vs
    cases e
    exact ⟨a, ws, rfl, rfl, q, k _ _ r1.reverse .non⟩
  · cases e
def fExtend : FM := fun d xs b h => match ownL h d, xs with
  | some (n, ds), [x] => match asL h x with
    | some es => if ds.length + es.length ≤ sizeLine then match putO h b n (.lst (ds ++ es)) with
      | some h' => .ok (.v .non) h'
      | none => .stuck else .stuck
    | none => .stuck
  | _, _ => .stuck
theorem lk_extend : LkM ca fExtend rExtend := fun b μ F H h Wx x d vs ds Q R V1 Vs _ p => by
  unfold fExtend at p
  split at p
  · rename_i n ds0 y e1
    obtain ⟨a, ws, rfl, en, e0, q1, r1⟩ := ownL_ok R V1 e1
    obtain ⟨v, rfl, Vr⟩ := Vs.one
    cases e2 : asL h y with
    | none => rw [e2] at p; exact p.elim
    | some es =>
      rw [e2] at p
      dsimp only at p
      obtain ⟨a2, ws2, rfl, q2, r2⟩ := asL_ok R Vr e2
      by_cases hl : ds0.length + es.length ≤ sizeLine
      · rw [if_pos hl] at p
        cases e3 : putO h b n (.lst (ds0 ++ es)) with
        | none => rw [e3] at p; exact p.elim
        | some h' =>
          rw [e3] at p
          obtain ⟨R2, E2⟩ := put_ok R en e0 rfl e3 (u := .lst (ws ++ ws2)) fun H' q => ⟨_, q, r1.append r2⟩
          exact ⟨a, a2, ws, ws2, rfl, rfl, q1, q2, by rw [r1.length, r2.length]; exact hl, p μ F _ E2 R2 _ (show VR ca _ _ _ _ from .non)⟩
      · rw [if_neg hl] at p; exact p.elim
  · exact p.elim
end
end Z
set_option Elab.async false
set_option linter.all false
set_option maxRecDepth 100000
set_option maxHeartbeats 1000000
/-! Z14: more operators and walks; what a printed proof asks of the text. -/
namespace Z
open PySem PySem.Spec L2
section
variable {ca : Cn} {X : Cx} {W : WF} {pos : Pos} {e a b c : Expr}
open Classical in
noncomputable def fRepL : F2 := fun x y h => match asL h x, y with
  | some xs, .int k => if R63 k ∧ xs.length * k.toNat ≤ sizeLine then .ok (.n (.lst (List.replicate k.toNat xs).flatten)) h else .stuck
  | _, _ => .stuck
theorem lk_repL : Lk2 ca fRepL rRep := by
  intro b μ F H h Wx x y c d Q R V1 V2 _ p
  unfold fRepL at p
  split at p
  · rename_i xs k e1
    obtain ⟨a, vs, rfl, q1, r1⟩ := asL_ok R V1 e1
    cases V2
    by_cases hC : R63 k ∧ xs.length * k.toNat ≤ sizeLine
    · rw [if_pos hC] at p
      exact ⟨a, k, vs, rfl, rfl, q1, (R63.of hC.1).1, (R63.of hC.1).2, by rw [r1.length]; exact hC.2, fun l hl => new_lst R (r1.rep _) p hl⟩
    · rw [if_neg hC] at p; exact p.elim
  · exact p.elim
noncomputable def fMulA : F2 := orF fMul fRepL
theorem op_mulA : OpR X (binaryOp .Mult) (fun x y H Q => rI CMul (fun i j => .int (i * j)) x y H Q ∨ rRep x y H Q) := op_mul.or op_rep
theorem lk_mulA : Lk2 ca fMulA (fun x y H Q => rI CMul (fun i j => .int (i * j)) x y H Q ∨ rRep x y H Q) := lk_mul.or lk_repL
/-- is True, is not False .. -/
def fIsB : F2
  | .bl x, .bl y, h => .ok (.v (.bl (decide (x = y)))) h
  | _, _, _ => .stuck
def fNotIsB : F2
  | .bl x, .bl y, h => .ok (.v (.bl (!decide (x = y)))) h
  | _, _, _ => .stuck
theorem op_isB : OpR X (compareOp .Is) rIsB := op_isBl
theorem op_notB : OpR X (compareOp .IsNot) rNotB := op_notBl
theorem lk_isB : Lk2 ca fIsB rIsB := by
  intro b μ F H h Wx x y c d Q R V1 V2 _ p
  cases V1 with
  | bl i =>
    cases V2 with
    | bl j => exact ⟨i, j, rfl, rfl, PostG.ok (a := Z.R.v (.bl (decide (i = j)))) p R _ (VR.bl _)⟩
    | _ => exact (show False from p).elim
  | _ => exact (show False from p).elim
theorem lk_notB : Lk2 ca fNotIsB rNotB := by
  intro b μ F H h Wx x y c d Q R V1 V2 _ p
  cases V1 with
  | bl i =>
    cases V2 with
    | bl j => exact ⟨i, j, rfl, rfl, PostG.ok (a := Z.R.v (.bl (!decide (i = j)))) p R _ (VR.bl _)⟩
    | _ => exact (show False from p).elim
  | _ => exact (show False from p).elim
/-- xs[::-1] -/
def fRevL : F1 := fun d h => match asL h d with
  | some ds => .ok (.n (.lst ds.reverse)) h
  | none => .stuck
theorem se_rev {x : ED} {k : Nat} {p1 p2 p3 : Pos} (hx : SD ca X W e x) : SE ca X W (.Subscript e (.Slice none none (some (.UnaryOp .USub (.Constant (.int 1) k p1) p2)) p3) pos) (Z.e1 fRevL x) :=
  PE.imp (pe_revL hx) (lk_un (r := fun x H1 Q => ∃ a xs, x = .ref a ∧ SqL X.K H1 a xs ∧ ∀ p, H1 p = none → Q (.ref p) (upd H1 p (.lst xs.reverse))) (by
    intro b μ F H h Wx x c Q R V1 _ p
    unfold fRevL at p
    cases e1 : asL h c with
    | none => rw [e1] at p; exact p.elim
    | some ds =>
      rw [e1] at p
      obtain ⟨a, vs, rfl, q, r⟩ := asL_ok R V1 e1
      exact ⟨a, vs, rfl, SqL.of q, fun l hl => new_lst R r.reverse p hl⟩))
/-- range(i, j, -1) -/
def downD (i : Int) (n : Nat) : List D := (List.range n).map fun (k : Nat) => D.int (i + (k : Nat) * (-1))
open Classical in
noncomputable def iR3 (xs : EA) : EI := fun τ h => (xs τ h).bind fun ds h1 => match ds with
  | [.int i, .int j, .int k] => if k = -1 ∧ R62 i ∧ R62 j then .ok (downD i (i - j).toNat, none) h1 else .stuck
  | _ => .stuck
theorem itc_ok {i : Int} {n : Nat} {μ : List Addr} {F H : Hp} {h : Own} : ItOk ca (downD i n) none (Itc i (-1) n) μ F H h := by
  intro b μ2 F2 h2 H2 E R hk j
  have hl : (downD i n).length = n := by simp [downD]
  rw [hl]
  refine ⟨fun hi => ⟨hi, fun x H3 y => ?_⟩, fun hi => hi⟩
  obtain ⟨e, y⟩ := y
  subst e y
  exact ⟨F2, .int (i + j * (-1)), by simp [downD, hi], fun b => Ext.refl, R, .int _⟩
theorem VRs.three {μ : List Addr} {F : Hp} {vs : List V} {d1 d2 d3 : D} (r : VRs ca μ F vs [d1, d2, d3]) : ∃ u v w, vs = [u, v, w] ∧ VR ca μ F u d1 ∧ VR ca μ F v d2 ∧ VR ca μ F w d3 := by
  cases r with
  | cons h t => cases t with
    | cons h2 t => cases t with
      | cons h3 t => cases t; exact ⟨_, _, _, rfl, h, h2, h3⟩
theorem si_r3 {tg : Expr} {xs : EA} (h : PI X tg e (iRng3 (rdA ca W xs))) : SI ca X W tg e (iR3 xs) := PI.imp h fun σ H R ⟨μ, F, τ, h, A, p⟩ => ⟨μ, F, τ, h, A, p.bind.imp fun ds μ1 F1 H1 h1 E1 R1 q vs Vs => by
  split at q
  · rename_i i j k
    obtain ⟨u, v, w, rfl, V1, V2, V3⟩ := Vs.three
    cases V1; cases V2; cases V3
    by_cases hj : k = -1 ∧ R62 i ∧ R62 j
    · rw [if_pos hj] at q
      obtain ⟨rfl, hj1, hj2⟩ := hj
      obtain ⟨h1, h2⟩ := R62.of hj1
      obtain ⟨h3, h4⟩ := R62.of hj2
      exact ⟨i, j, -1, (i - j).toNat, rfl, RgC.neg h1 h2 h3 h4, q.ok R1 (fun n o z => by cases z) _ itc_ok⟩
    · rw [if_neg hj] at q; exact q.elim
  · exact q.elim⟩
/-- enumerate(list) -/
def enD (ds : List D) : List D := ds.zipIdx.map fun p => .tup [.int (p.2 : Nat), p.1]
theorem enD_len (ds : List D) : (enD ds).length = ds.length := by simp [enD]
theorem enD_get {ds : List D} {i : Nat} {d : D} (h : ds[i]? = some d) : (enD ds)[i]? = some (.tup [.int (i : Nat), d]) := by
  simp [enD, List.getElem?_map, List.getElem?_zipIdx, h]
def iEn (xs : EA) : EI := fun τ h => (xs τ h).bind fun ds h1 => match ds with
  | [.lst ds] => .ok (enD ds, none) h1
  | [.ref n] => match h1[n]? with
    | some (.lst ds) => .ok (enD ds, some (n, .lst ds)) h1
    | _ => .stuck
  | _ => .stuck
theorem ite_ok {K : PySem.W.Frag} {ds : List D} {kp : Kp} {a : Addr} {μ : List Addr} {F H : Hp} {h : Own} (hh : ∀ b μ2 F2 h2 H2, Ext b μ F H h μ2 F2 H2 h2 → RelH ca μ2 F2 h2 H2 → kpOk kp h2 → ∃ vs, H2 a = some (.lst vs) ∧ VRs ca μ2 F2 vs ds) : ItOk ca (enD ds) kp (Ite K a) μ F H h := by
  intro b μ2 F2 h2 H2 E R hk i
  obtain ⟨vs, q, r⟩ := hh b μ2 F2 h2 H2 E R hk
  have hl := r.length
  rw [enD_len]
  refine ⟨fun hi => ⟨⟨vs, vs[i]'(by omega), SqL.of q, by rw [List.getElem?_eq_getElem]⟩, fun x H3 y => ?_⟩, fun hi => ⟨vs, SqL.of q, by omega⟩⟩
  obtain ⟨T, x0, rfl, hT, rfl, y⟩ := y
  obtain ⟨d, e1, e2⟩ := r.getV (y vs (SqL.of q))
  obtain ⟨_, R3⟩ := fzNew (b := 0) R hT (.tup [.int (i : Nat), x0])
  exact ⟨_, _, enD_get e1, fun b => (fzNew R hT _).1, R3, .tup upd_same (.cons (.int _) (.cons ((fzNew (b := 0) R hT _).1.vr e2) .nil))⟩
theorem si_en {tg : Expr} {xs : EA} (h : PI X tg e (iEnum X.K (rdA ca W xs))) : SI ca X W tg e (iEn xs) := PI.imp h fun σ H R ⟨μ, F, τ, h, A, p⟩ => ⟨μ, F, τ, h, A, p.bind.imp fun ds μ1 F1 H1 h1 E1 R1 q vs Vs => by
  split at q
  · rename_i ds
    obtain ⟨v, rfl, Vr⟩ := Vs.one
    cases Vr with
    | @lst a vs ds qt r => exact ⟨a, vs, rfl, SqL.of (R1.fz _ _ qt), q.ok R1 (fun n o z => by cases z) _ (ite_ok fun b μ2 F2 h2 H2 E R hk => ⟨vs, R.fz _ _ (E.fz _ _ qt), E.vrs r⟩)⟩
  · rename_i n
    obtain ⟨v, rfl, Vr⟩ := Vs.one
    cases Vr with
    | @ref a n en =>
      split at q
      · rename_i ds e0
        obtain ⟨vs, q1, r1⟩ := R1.ob n _ _ en e0
        exact ⟨a, vs, rfl, SqL.of q1, q.ok R1 (fun m o z => by cases z; exact e0) _ (ite_ok fun b μ2 F2 h2 H2 E R hk => R.ob n a _ (E.ix n a en) (hk n _ rfl))⟩
      · exact q.elim
  · exact q.elim⟩
/-- zip of two lists -/
def zipD (xs ys : List D) : List D := (xs.zip ys).map fun p => .tup [p.1, p.2]
def iZp (xs : EA) : EI := fun τ h => (xs τ h).bind fun ds h1 => match ds with
  | [.lst xs, .lst ys] => .ok (zipD xs ys, none) h1
  | _ => .stuck
theorem si_zp {tg : Expr} {xs : EA} (h : PI X tg e (iZip X.K (rdA ca W xs))) : SI ca X W tg e (iZp xs) := PI.imp h fun σ H R ⟨μ, F, τ, h, A, p⟩ => ⟨μ, F, τ, h, A, p.bind.imp fun ds μ1 F1 H1 h1 E1 R1 q vs Vs => by
  split at q
  · rename_i xs ys
    obtain ⟨v, w, rfl, V1, V2⟩ := Vs.two
    cases V1 with
    | @lst a vs ds qt r =>
    cases V2 with
    | @lst a2 vs2 ds2 qt2 r2 =>
      refine ⟨a, a2, vs, vs2, rfl, SqL.of (R1.fz _ _ qt), SqL.of (R1.fz _ _ qt2), q.ok R1 (fun n o z => by cases z) _ ?_⟩
      intro b μ2 F2 h2 H2 E R hk i
      have q1 := R.fz _ _ (E.fz _ _ qt)
      have q2 := R.fz _ _ (E.fz _ _ qt2)
      have k1 := E.vrs r
      have k2 := E.vrs r2
      have hl : (zipD xs ys).length = min xs.length ys.length := by simp [zipD]
      rw [hl, ← r.length, ← r2.length]
      refine ⟨fun hi => ⟨⟨vs, vs2, vs[i]'(by omega), vs2[i]'(by omega), SqL.of q1, SqL.of q2, by rw [List.getElem?_eq_getElem], by rw [List.getElem?_eq_getElem]⟩, fun x H3 y => ?_⟩, fun hi => ⟨vs, vs2, SqL.of q1, SqL.of q2, by omega⟩⟩
      obtain ⟨T, x0, y0, rfl, hT, rfl, z1, z2⟩ := y
      obtain ⟨d, f1, f2⟩ := k1.getV (z1 vs (SqL.of q1))
      obtain ⟨d', f1', f2'⟩ := k2.getV (z2 vs2 (SqL.of q2))
      obtain ⟨_, R3⟩ := fzNew (b := 0) R hT (.tup [x0, y0])
      refine ⟨_, .tup [d, d'], ?_, fun b => (fzNew R hT _).1, R3, .tup upd_same (.cons ((fzNew (b := 0) R hT _).1.vr f2) (.cons ((fzNew (b := 0) R hT _).1.vr f2') .nil))⟩
      have e3 : (xs.zip ys)[i]? = some (d, d') := List.getElem?_zip_eq_some.mpr ⟨f1, f1'⟩
      simp only [zipD, List.getElem?_map, e3]
      rfl
  · exact q.elim⟩
/-- a, b = x, y -/
def sPar (i j : Nat) (xs : EA) : ST := sE xs fun ds τ h => match ds with
  | [x, y] => .next ((τ.s.set i (some x)).set j (some y)) h
  | _ => .stuck
theorem ss_par {i j : Nat} {x y : Str} {ta : EA} {px py pt : Pos} {kt k2 : Nat} {pt2 : Pos} (hc : X.calm = true) (hN : X.N.Nodup) (hi : X.N[i]? = some x) (hj : X.N[j]? = some y) (hij : i ≠ j)
    (hx : X.env.scope.names.lookup x = some .local) (hy : X.env.scope.names.lookup y = some .local) (ha : SA ca X W [a, b] ta)
    (hw : swappedStores [.Tuple [.Name x px, .Name y py] kt pt] (.Tuple [a, b] k2 pt2) X.env = pure (some [x, y]))
    (hs : swapsWithSole [.Tuple [.Name x px, .Name y py] kt pt] (.Tuple [a, b] k2 pt2) pos.line X.env = pure false) :
    SS ca X W (.Assign [.Tuple [.Name x px, .Name y py] kt pt] (.Tuple [a, b] k2 pt2) pos) (sPar i j ta) := PS.imp (ps_par hc hN hi hj hij hx hy ha hw hs) fun D σ H ⟨μ, F, τ, h, A, p⟩ => ⟨μ, F, τ, h, A, (sE_post A p).imp fun ds μ1 F1 H1 h1 E1 R1 q vs Vs => by
    split at q
    · obtain ⟨v, w, rfl, V1, V2⟩ := Vs.two
      exact ⟨v, w, rfl, q μ1 F1 H1 _ Ext.refl R1 (((E1.sr A.sl).set i V1).set j V2)⟩
    · exact q.elim⟩
end
/-! ### what a printed proof asks of the text -/
structure Df (K : PySem.W.Frag) (mg : Str → Option Value) (x : Str) (st : Stmt) (ps : List Str) (f : Addr) (fd : FuncData) : Prop where
  F : Fun K x x st f fd
  m : mg x = some (.ref f)
  b : Binds K fd ps []
/-- .. called by the name x, which may be another -/
structure Dg (K : PySem.W.Frag) (mg : Str → Option Value) (x x0 : Str) (st : Stmt) (ps : List Str) (f : Addr) (fd : FuncData) : Prop where
  F : Fun K x0 x0 st f fd
  m : mg x = some (.ref f)
  b : Binds K fd ps []
theorem Df.dg {K : PySem.W.Frag} {mg : Str → Option Value} {x : Str} {st : Stmt} {ps : List Str} {f : Addr} {fd : FuncData} (D : Df K mg x st ps f fd) : Dg K mg x x st ps f fd := ⟨D.F, D.m, D.b⟩
structure ClF (ca : Cn) (K : PySem.W.Frag) (c : Nat) (ns : List Str) : Prop where
  cl : Cls K (ca.ad c)
  nm : ca.nm c = ns
  na : ∀ f ∈ ns, NoAttr K (ca.ad c) f
theorem ClF.at {ca : Cn} {K : PySem.W.Frag} {c : Nat} {ns : List Str} {i : Nat} {f : Str} (C : ClF ca K c ns) (nd : ns.Nodup) (e : ns[i]? = some f) : ∀ c' ∈ [c], Cls K (ca.ad c') ∧ NoAttr K (ca.ad c') f ∧ (ca.nm c').Nodup ∧ (ca.nm c')[i]? = some f := fun c' h => by
  have : c' = c := by simpa using h
  subst this
  exact ⟨C.cl, C.na f (List.mem_of_getElem? e), by rw [C.nm]; exact nd, by rw [C.nm]; exact e⟩
structure Mf (K : PySem.W.Frag) (mg : Str → Option Value) (ca : Cn) (x : Str) (c : Nat) (ps : List Str) (C f : Addr) (fd : FuncData) : Prop where
  ad : ca.ad c = C
  mkk : Mk K C f
  m : mg x = some (.ref C)
  b : Binds K fd ps []
theorem stuck_ok {P : Program} {w : World} {K : PySem.W.Frag} {mg : Str → Option Value} {base : Heap} {ca : Cn} {CX : CXT} {k n : Nat} {f : Addr} {fd : FuncData} {ps : List Str} : FnOk P w K mg base CX k f fd ps (spB ca n fun _ _ _ => .stuck) :=
  ⟨fun vs H Q E ⟨_, _, _, _, _, _, _, _, _, p⟩ => p.elim, fun A outer s H args us vs Q E _ _ _ _ ⟨_, _, _, _, _, _, _, _, _, p⟩ => p.elim⟩
theorem tk0 {X : Cx} : Takes X W0 := fun _ _ x => by
  obtain ⟨_, _, _, _, _, _, _, _, _, _, _, _, _, _, _, _, z⟩ := x
  exact z.elim
section
variable {ca : Cn} {X : Cx} {W : WF} {pos : Pos}
theorem se_callN {f : Addr} {fd : FuncData} {ps : List Str} {k n : Nat} {G : BD} {x : Str} {p : Pos} {es : List Expr} {xs : EA} (hn : ps.length = n) (F : FnOk X.prog X.w X.K X.mg X.base (L2.CX X.prog X.w) k f fd ps (spB ca n G)) (hr : Room k X.A) (hg : Gl X x) (hm : X.mg x = some (.ref f))
    (hk : PySem.W.keepIn X.K (.ref f) = true) (hb : Binds X.K fd ps []) (tk : Takes X W) (ha : SA ca X W (e :: es) xs) (hdb : (x == ("__debug__" : Str)) = false) (he : starEach (e :: es) X.env = (false, eval e X.env) :: starEach es X.env)
    (hpl : (backTo pos (starEach es X.env)).any (·.1) = false) : SE ca X W (.Call (.Name x p) (e :: es) [] pos) (eCall n G xs) := by
  subst hn; exact se_call F hr hg hm hk hb tk ha hdb he hpl
theorem se_mkN {C f : Addr} {cn n : Nat} {fd : FuncData} {ps : List Str} {k : Nat} {G : BD} {x : Str} {p : Pos} {es : List Expr} {xs : EA} (hn : ps.length = n) (hC : ca.ad cn = C) (M : Mk X.K C f) (F : FnOk X.prog X.w X.K X.mg X.base (L2.CX X.prog X.w) k f fd ps (spB ca n G)) (hr : Room (k + 1) X.A)
    (hg : Gl X x) (hm : X.mg x = some (.ref C)) (hb : Binds X.K fd ps []) (tk : Takes X W) (ha : SA ca X W (e :: es) xs) (hdb : (x == ("__debug__" : Str)) = false) (he : starEach (e :: es) X.env = (false, eval e X.env) :: starEach es X.env)
    (hpl : (backTo pos (starEach es X.env)).any (·.1) = false) : SE ca X W (.Call (.Name x p) (e :: es) [] pos) (eMk cn n G xs) := by
  subst hn; exact se_mk hC M F hr hg hm hb tk ha hdb he hpl
end
/-! ### list(script), where the script is the law's own list -/
def fListS : FA := fun xs h => match xs with
  | [.ro ns] => .ok (.n (.lst (ns.map .int))) h
  | _ => .stuck
theorem VRs.ofInts {ca : Cn} {μ : List Addr} {F : Hp} : ∀ ns : List Int, VRs ca μ F (ns.map V.int) (ns.map D.int)
  | [] => .nil
  | i :: ns => .cons (.int i) (VRs.ofInts ns)
theorem lk_listS {ca : Cn} {K : PySem.W.Frag} (hro : ∀ a ns H, ca.ro a ns → SqL K H a (ns.map V.int)) : LkA ca fListS (fun xs H Q => ∃ p ys, xs = [.ref p] ∧ (SqL K H p ys ∨ SqT K H p ys) ∧ ∀ l, H l = none → Q (.ref l) (upd H l (.lst ys))) := by
  intro b μ F H h Wx vs ds Q R Vs _ p
  unfold fListS at p
  split at p
  · rename_i ns
    obtain ⟨v, rfl, Vr⟩ := Vs.one
    cases Vr with
    | ro e =>
      rename_i a
      refine ⟨a, _, rfl, .inl ?_, fun l hl => new_lst R (VRs.ofInts ns) p hl⟩
      rcases e with ⟨o, e⟩ | e
      · exact .inl (.inr ⟨o, R.fz _ _ e⟩)
      · exact hro _ _ _ e
  · exact p.elim
end Z
set_option Elab.async false
set_option linter.all false
set_option maxRecDepth 100000
/-! Z15: the law's end: how the script comes in. -/
namespace Z
open PySem PySem.Spec L2
def roK (K : PySem.W.Frag) (a : Addr) (ns : List Int) : Prop :=
  ∃ (o : Obj) (its : Array Value) (n : Nat), K.lookup a = some o ∧ o.cls = .type "list" ∧ o.dict = none ∧ o.data = .seq its n ∧ its.size ≤ sizeLine ∧ Vals (ns.map V.int) its.toList
def cnK (cs : List (Str × List Str)) (K : PySem.W.Frag) : Cn :=
  ⟨fun c => match PySem.W.nsIn K mainGlobals (cs.getD c ("", [])).1 with
    | some (some (.ref C)) => C
    | _ => 0, fun c => (cs.getD c ("", [])).2, roK K⟩
theorem cnK_ad {cs : List (Str × List Str)} {K : PySem.W.Frag} {c : Nat} {x : Str} {C : Addr} (hx : (cs.getD c ("", [])).1 = x) (e : PySem.W.nsIn K mainGlobals x = some (some (.ref C))) : (cnK cs K).ad c = C := by
  show (match PySem.W.nsIn K mainGlobals (cs.getD c ("", [])).1 with
    | some (some (.ref C)) => C
    | _ => 0) = C
  rw [hx, e]
theorem entry {cs : List (Str × List Str)} {K : PySem.W.Frag} {G : BD} {H : Hp} {a : Addr} {ns : List Int} (hO : L2.Only H) (hS : SqL K H a (ns.map V.int))
    (hG : ∃ h, G 0 [.ro ns] [] = .ret (.v (.bl true)) h) : spB (cnK cs K) 1 G [.ref a] H (fun v _ => v = .bl true) fun _ _ _ => False := by
  obtain ⟨h, e⟩ := hG
  refine ⟨[], H, [], [.ro ns], 0, ⟨rfl, List.nodup_nil, fun _ _ z => z, fun n b o z => by simp at z, fun b z => by simp at z, fun n b o z => by simp at z⟩, .cons (.ro ?_) .nil, rfl, Nat.le_refl _, ?_⟩
  · rcases hS with (q | ⟨o, q⟩) | q
    · rcases hO a with z | ⟨o, xs, z⟩
      · rw [z] at q; cases q
      · rw [z] at q; cases q
    · exact .inl ⟨o, q⟩
    · exact .inr q
  · rw [e]
    intro μ1 F1 H1 v E R V1
    have V2 : VR (cnK cs K) μ1 F1 v (.bl true) := V1
    cases V2
    rfl
theorem cx_end {P : Program} {w : World} {H : Hp} {s : Shared} {e : Value} {s' : Shared} (h : L2.CX P w [] H s (fun _ _ _ => False) e s') : False := by
  obtain ⟨_, _, _, _, _, _, _, _, _, _, _, _, z⟩ := h
  exact z
end Z
set_option Elab.async false
set_option linter.all false
set_option maxRecDepth 100000
/-! Z16: to compute with the own semantics: rules for simp, loops. -/
namespace Z
open PySem PySem.Spec L2
/-! ### statements and what they leave -/
def W (x : SRes) (Q : SRes → Prop) : Prop := Q x
def Th (b : ST) (k : Nat) (Q : SRes → Prop) : SRes → Prop := fun r => match r with
  | .next s h => W (b ⟨k, s⟩ h) Q
  | r => Q r
section
variable {a b : ST} {t : EB} {τ : Fm} {h : Own} {Q : SRes → Prop} {k : Nat} {s : Sl}
@[simp] theorem W_seq : W (sSeq a b τ h) Q = W (a τ h) (Th b τ.b Q) := by
  unfold W sSeq
  cases a τ h <;> rfl
@[simp] theorem W_th_next : W (.next s h) (Th b k Q) = W (b ⟨k, s⟩ h) Q := rfl
@[simp] theorem W_th_ret {r : R} : W (.ret r h) (Th b k Q) = W (.ret r h) Q := rfl
@[simp] theorem W_th_brk : W (.brk s h) (Th b k Q) = W (.brk s h) Q := rfl
@[simp] theorem W_th_cnt : W (.cnt s h) (Th b k Q) = W (.cnt s h) Q := rfl
@[simp] theorem W_th_stuck : W .stuck (Th b k Q) = W .stuck Q := rfl
@[simp] theorem sPass_eq : sPass τ h = .next τ.s h := rfl
@[simp] theorem sBrk_eq : sBrk τ h = .brk τ.s h := rfl
@[simp] theorem sCnt_eq : sCnt τ h = .cnt τ.s h := rfl
@[simp] theorem sNever_eq : sNever τ h = .stuck := rfl
@[simp] theorem sIf_eq : sIf t a b τ h = sE t (fun k τ h => if k = true then a τ h else b τ h) τ h := rfl
@[simp] theorem sE_eq {α : Type} {x : Fm → Own → Res α} {f : α → Fm → Own → SRes} : sE x f τ h = (match x τ h with
  | .ok a h1 => f a τ h1
  | .exc c h1 => .exc c τ.s h1
  | .stuck => .stuck) := rfl
@[simp] theorem sX_eq {x : ED} : sX x τ h = sE x (fun _ τ h => .next τ.s h) τ h := rfl
@[simp] theorem sRet_eq {x : EX} : sRet x τ h = sE x (fun r _ h => .ret r h) τ h := rfl
@[simp] theorem sRetN_eq : sRetN τ h = .ret (.v .non) h := rfl
@[simp] theorem sSet_eq {i : Nat} {x : ED} : sSet i x τ h = sE x (fun d τ h => .next (τ.s.set i (some d)) h) τ h := rfl
@[simp] theorem sA_eq {x : ED} {g : ET} : sA x g τ h = sE x (fun d τ h => match g d τ h with
  | .next s h1 => .next s h1
  | _ => .stuck) τ h := rfl
end
section
variable {τ : Fm} {h h1 : Own} {d x y : D}
@[simp] theorem eVar_eq {i b : Nat} {s : Sl} : eVar i ⟨b, s⟩ h = (match s[i]? with
  | some (some d) => .ok d h
  | _ => .stuck) := rfl
@[simp] theorem eC_eq : eC d τ h = .ok d h := rfl
@[simp] theorem e2_eq {f : F2} {a b : ED} : e2 f a b τ h = (a τ h).bind fun x h1 => (b τ h1).bind fun y h2 => f x y h2 := rfl
@[simp] theorem e1_eq {f : F1} {a : ED} : Z.e1 f a τ h = (a τ h).bind fun x h1 => f x h1 := rfl
@[simp] theorem ed_eq {x : EX} : ed x τ h = (x τ h).bind fun r h1 => match r with
  | .v d => .ok d h1
  | .n o => match frzO o with
    | some d => .ok d h1
    | none => .stuck := rfl
@[simp] theorem ev_eq {x : ED} : ev x τ h = (x τ h).bind fun d h1 => .ok (.v d) h1 := rfl
@[simp] theorem eAl_eq {x : EX} : eAl x τ h = (x τ h).bind fun r h1 => match r with
  | .v d => .ok d h1
  | .n o => .ok (.ref h1.length) (h1 ++ [o]) := rfl
@[simp] theorem eFz_eq {x : ED} : eFz x τ h = (x τ h).bind fun d h1 => fzr τ.b d h1 := rfl
@[simp] theorem fzr_eq {b m : Nat} : fzr b (.ref m) h = if b ≤ m then match h[m]? with
    | some o => match frzO o with
      | some d => .ok d (h.set m .dead)
      | none => .stuck
    | none => .stuck else .stuck := rfl
@[simp] theorem aNil_eq : aNil τ h = .ok [] h := rfl
@[simp] theorem aCons_eq {x : ED} {xs : EA} : aCons x xs τ h = (x τ h).bind fun d h1 => (xs τ h1).bind fun ds h2 => .ok (d :: ds) h2 := rfl
@[simp] theorem eTup_eq {xs : EA} : eTup xs τ h = (xs τ h).bind fun ds h1 => if ds.length ≤ sizeLine then .ok (.tup ds) h1 else .stuck := rfl
@[simp] theorem eLst_eq {xs : EA} : eLst xs τ h = (xs τ h).bind fun ds h1 => if ds.length ≤ sizeLine then .ok (.n (.lst ds)) h1 else .stuck := rfl
@[simp] theorem eA_eq {f : FA} {xs : EA} : eA f xs τ h = (xs τ h).bind fun ds h1 => f ds h1 := rfl
@[simp] theorem eCall_eq {n : Nat} {G : BD} {xs : EA} : eCall n G xs τ h = (xs τ h).bind fun ds h1 => if ds.length = n then callB G ds h1 else .stuck := rfl
@[simp] theorem eM_eq {T : String} {f : FM} {x : ED} {xs : EA} : eM T f x xs τ h = (x τ h).bind fun d h1 => if isTy T h1 d = true then (xs τ h1).bind fun ds h2 => f d ds τ.b h2 else .stuck := rfl
@[simp] theorem eTB_eq {x : EX} : eTB x τ h = (x τ h).bind fun r h1 => match r with
  | .v (.bl k) => .ok k h1
  | _ => .stuck := rfl
@[simp] theorem eT_eq {x : ED} : eT x τ h = (x τ h).bind fun d h1 => match tru h1 d with
  | some k => .ok k h1
  | none => .stuck := rfl
@[simp] theorem bAnd_eq {a b : EB} : bAnd a b τ h = (a τ h).bind fun k h1 => if k = true then b τ h1 else .ok false h1 := rfl
@[simp] theorem bOr_eq {a b : EB} : bOr a b τ h = (a τ h).bind fun k h1 => if k = true then .ok true h1 else b τ h1 := rfl
@[simp] theorem bNot_eq {a : EB} : bNot a τ h = (a τ h).bind fun k h1 => .ok (!k) h1 := rfl
@[simp] theorem bYes_eq : bYes τ h = .ok true h := rfl
@[simp] theorem vAnd_eq {a b : ED} : vAnd a b τ h = (a τ h).bind fun x h1 => match x with
  | .bl true => b τ h1
  | .bl false => .ok (.bl false) h1
  | _ => .stuck := rfl
@[simp] theorem vOr_eq {a b : ED} : vOr a b τ h = (a τ h).bind fun x h1 => match x with
  | .bl false => b τ h1
  | .bl true => .ok (.bl true) h1
  | _ => .stuck := rfl
@[simp] theorem eIf_eq {t : EB} {a b : EX} : eIf t a b τ h = (t τ h).bind fun k h1 => if k = true then a τ h1 else b τ h1 := rfl
@[simp] theorem eCh_eq {f g : F2} {a b c : ED} : eCh f g a b c τ h = (a τ h).bind fun x h1 => (b τ h1).bind fun y h2 => (f x y h2).bind fun r h3 => match r with
  | .v (.bl true) => (c τ h3).bind fun z h4 => g y z h4
  | .v (.bl false) => .ok (.v (.bl false)) h3
  | _ => .stuck := by
  unfold eCh
  rfl
@[simp] theorem eIsI_eq {T : String} {x : ED} : eIsI T x τ h = (x τ h).bind fun d h1 => match tyD h1 d with
  | some t => match kitB t T with
    | some k => .ok (.bl k) h1
    | none => .stuck
  | none => .stuck := rfl
@[simp] theorem oNone_eq : oNone τ h = .ok none h := rfl
@[simp] theorem oSome_eq {x : ED} : oSome x τ h = (x τ h).bind fun d h1 => match d with
  | .int i => .ok (some i) h1
  | _ => .stuck := by
  unfold oSome
  rfl
@[simp] theorem eSl_eq {x : ED} {lo hi : EO} : eSl x lo hi τ h = (x τ h).bind fun d h1 => (lo τ h1).bind fun l h2 => (hi τ h2).bind fun u h3 => fSl d l u h3 := rfl
@[simp] theorem tN_eq {i : Nat} : tN i d τ h = .next (τ.s.set i (some d)) h := rfl
/-! operators at ints -/
@[simp] theorem fSub_ii {i j : Int} : fSub (.int i) (.int j) h = .ok (.v (.int (i - j))) h := rfl
@[simp] theorem f1_ii {i j : Int} : f1 (.int i) (.int j) h = .ok (.v (.int (i + j))) h := rfl
@[simp] theorem fAdd_ii {i j : Int} : fAdd (.int i) (.int j) h = .ok (.v (.int (i + j))) h := rfl
@[simp] theorem fAdd_tt {ds es : List D} : fAdd (.tup ds) (.tup es) h = if ds.length + es.length ≤ sizeLine then .ok (.v (.tup (ds ++ es))) h else .stuck := by
  show (match fAddT (.tup ds) (.tup es) h with | .stuck => (orF fAddS fAddL) (.tup ds) (.tup es) h | z => z) = _
  unfold fAddT
  dsimp only
  by_cases q : ds.length + es.length ≤ sizeLine
  · rw [if_pos q]
  · rw [if_neg q]
    dsimp only
    rfl
@[simp] theorem fMod_ii {i j : Int} : fMod (.int i) (.int j) h = if 0 < j then .ok (.v (.int (i % j))) h else .stuck := by simp [fMod, fIc]
@[simp] theorem fDiv_ii {i j : Int} : fDiv (.int i) (.int j) h = if 0 < j ∧ j < 1073741824 then .ok (.v (.int (i / j))) h else .stuck := by simp [fDiv, fIc]
@[simp] theorem fShl_ii {i j : Int} : fShl (.int i) (.int j) h = if 0 ≤ j ∧ j ≤ 1000000 ∧ i.natAbs < 2 ^ 64 then .ok (.v (.int (i * 2 ^ j.toNat))) h else .stuck := by simp [fShl, fIc, and_assoc]
@[simp] theorem fPow_ii {i j : Int} : fPow (.int i) (.int j) h = if 0 ≤ j ∧ j ≤ 1000000 ∧ i.natAbs < 2 ^ 64 then .ok (.v (.int (i ^ j.toNat))) h else .stuck := by simp [fPow, fIc, and_assoc]
@[simp] theorem fShr_ii {i j : Int} : fShr (.int i) (.int j) h = if 0 ≤ j then .ok (.v (.int (i / 2 ^ j.toNat))) h else .stuck := by simp [fShr, fIc]
@[simp] theorem fAnd_ii {i j : Int} : fAnd (.int i) (.int j) h = .ok (.v (.int (Builtin.bitAnd i j))) h := rfl
@[simp] theorem fOr_ii {i j : Int} : fOr (.int i) (.int j) h = .ok (.v (.int (Builtin.bitOr i j))) h := rfl
@[simp] theorem fLt_ii {i j : Int} : fLt (.int i) (.int j) h = .ok (.v (.bl (decide (i < j)))) h := rfl
@[simp] theorem fLe_ii {i j : Int} : fLe (.int i) (.int j) h = .ok (.v (.bl (decide (i ≤ j)))) h := rfl
@[simp] theorem fGt_ii {i j : Int} : fGt (.int i) (.int j) h = .ok (.v (.bl (decide (j < i)))) h := rfl
@[simp] theorem fGe_ii {i j : Int} : fGe (.int i) (.int j) h = .ok (.v (.bl (decide (j ≤ i)))) h := rfl
@[simp] theorem fEq_ii {i j : Int} : fEq (.int i) (.int j) h = .ok (.v (.bl (decide (i = j)))) h := by
  show Res.ok (R.v (.bl (PyData.eqv (.int i) (.int j)))) h = _
  simp [PyData.eqv]
  rfl
@[simp] theorem fNe_ii {i j : Int} : fNe (.int i) (.int j) h = .ok (.v (.bl (!decide (i = j)))) h := by
  show Res.ok (R.v (.bl (!PyData.eqv (.int i) (.int j)))) h = _
  simp [PyData.eqv]
  rfl
@[simp] theorem fNeg_i {i : Int} : fNeg (.int i) h = .ok (.v (.int (-i))) h := rfl
@[simp] theorem fNotB_b {k : Bool} : fNotB (.bl k) h = .ok (.v (.bl (!k))) h := rfl
@[simp] theorem fIsN_eq {k : Bool} : fIsN k d h = .ok (.v (.bl (if k then !isN d else isN d))) h := rfl
@[simp] theorem fFld_obj {cs : List Nat} {i c : Nat} {fs : List D} : fFld cs i (.obj c fs) h = if c ∈ cs then (match fs[i]? with | some d => .ok (.v d) h | none => .stuck) else .stuck := rfl
@[simp] theorem fInt_i {i : Int} : fInt [.int i] h = .ok (.v (.int i)) h := rfl
@[simp] theorem tru_bl {k : Bool} : tru h (.bl k) = some k := rfl
@[simp] theorem tru_int {i : Int} : tru h (.int i) = some (i != 0) := rfl
@[simp] theorem tru_tup {ds : List D} : tru h (.tup ds) = some (!ds.isEmpty) := rfl
@[simp] theorem tru_lst {ds : List D} : tru h (.lst ds) = some (!ds.isEmpty) := rfl
/-! sequences -/
@[simp] theorem asQ_tup {ds : List D} : asQ h (.tup ds) = some ds := rfl
@[simp] theorem asQ_lst {ds : List D} : asQ h (.lst ds) = some ds := rfl
@[simp] theorem asL_lst {ds : List D} : asL h (.lst ds) = some ds := rfl
theorem asQ_ref {n : Nat} {ds : List D} (e : h[n]? = some (.lst ds)) : asQ h (.ref n) = some ds := by unfold asQ asL; simp [e]
theorem asL_ref {n : Nat} {ds : List D} (e : h[n]? = some (.lst ds)) : asL h (.ref n) = some ds := by unfold asL; simp [e]
@[simp] theorem frzO_lst {ds : List D} : frzO (.lst ds) = some (.lst ds) := rfl
@[simp] theorem frzO_dK {ds : List (Key × D)} : frzO (.dK ds) = some (.dK ds) := rfl
theorem fLen_q {ds : List D} (e : asQ h d = some ds) : fLen [d] h = .ok (.v (.int ds.length)) h := by unfold fLen; simp [e]
@[simp] theorem fLen_tup {ds : List D} : fLen [.tup ds] h = .ok (.v (.int ds.length)) h := rfl
@[simp] theorem fLen_lst {ds : List D} : fLen [.lst ds] h = .ok (.v (.int ds.length)) h := rfl
theorem fTuple_q {ds : List D} (e : asQ h d = some ds) : fTuple [d] h = .ok (.v (.tup ds)) h := by unfold fTuple; simp [e]
@[simp] theorem fTuple_tup {ds : List D} : fTuple [.tup ds] h = .ok (.v (.tup ds)) h := rfl
@[simp] theorem fTuple_lst {ds : List D} : fTuple [.lst ds] h = .ok (.v (.tup ds)) h := rfl
theorem fList_q {ds : List D} (e : asQ h d = some ds) : fList [d] h = .ok (.n (.lst ds)) h := by unfold fList; simp [e]
@[simp] theorem fList_tup {ds : List D} : fList [.tup ds] h = .ok (.n (.lst ds)) h := rfl
@[simp] theorem fList_lst {ds : List D} : fList [.lst ds] h = .ok (.n (.lst ds)) h := rfl
theorem atI_nat {α : Type} {xs : List α} {k : Nat} {i : Int} (hi : i = (k : Int)) : atI xs i = xs[k]? := by
  subst hi
  unfold atI ixN
  by_cases q : (k : Int) < xs.length
  · simp [q]
  · simp [q]
    omega
theorem fIx_q {ds : List D} {i : Int} {k : Nat} {r : D} (e : asQ h d = some ds) (hi : i = (k : Int)) (hk : ds[k]? = some r) : fIx d (.int i) h = .ok (.v r) h := by
  show (match fIxQ d (.int i) h with | .stuck => _ | z => z) = _
  unfold fIxQ
  simp [e, atI_nat hi, hk]
theorem fIn_q {ds : List D} (e : asQ h y = some ds) (f1 : flatD x = true) (f2 : ds.all flatD = true) : fIn x y h = .ok (.v (.bl (ds.any fun z => eqD z x))) h := by
  show (match fInQ false x y h with | .stuck => _ | z => z) = _
  unfold fInQ
  simp [e, f1]
  rw [if_pos (by simpa using f2)]
theorem fNotIn_q {ds : List D} (e : asQ h y = some ds) (f1 : flatD x = true) (f2 : ds.all flatD = true) : fNotIn x y h = .ok (.v (.bl (!(ds.any fun z => eqD z x)))) h := by
  show (match fInQ true x y h with | .stuck => _ | z => z) = _
  unfold fInQ
  simp [e, f1]
  rw [if_pos (by simpa using f2)]
/-! iteration -/
@[simp] theorem kpOk_none : kpOk none h = True := by simp [kpOk]
@[simp] theorem iSeq_eq {x : ED} : iSeq x τ h = (x τ h).bind fun d h1 => match d with
  | .tup ds => .ok (ds, none) h1
  | .lst ds => .ok (ds, none) h1
  | .ref n => match h1[n]? with
    | some (.lst ds) => .ok (ds, some (n, .lst ds)) h1
    | _ => .stuck
  | _ => .stuck := by
  unfold iSeq
  rfl
open Classical in
@[simp] theorem iR1_eq {xs : EA} : iR1 xs τ h = (xs τ h).bind fun ds h1 => match ds with
  | [.int j] => if R62 j then .ok (rngD 0 j.toNat, none) h1 else .stuck
  | _ => .stuck := by
  unfold iR1
  rfl
open Classical in
@[simp] theorem iR2_eq {xs : EA} : iR2 xs τ h = (xs τ h).bind fun ds h1 => match ds with
  | [.int i, .int j] => if R62 i ∧ R62 j then .ok (rngD i (j - i).toNat, none) h1 else .stuck
  | _ => .stuck := by
  unfold iR2
  rfl
open Classical in
@[simp] theorem iR3_eq {xs : EA} : iR3 xs τ h = (xs τ h).bind fun ds h1 => match ds with
  | [.int i, .int j, .int k] => if k = -1 ∧ R62 i ∧ R62 j then .ok (downD i (i - j).toNat, none) h1 else .stuck
  | _ => .stuck := by
  unfold iR3
  rfl
@[simp] theorem sFor_eq {it : EI} {g : ET} {bd : ST} {cl : List Nat} : sFor it g bd cl τ h = sE it (fun p τ h => forGo p.2 g bd cl τ.b p.1 τ.s h) τ h := rfl
@[simp] theorem eComp_eq {it : EI} {g : ET} {t : EB} {x : ED} {vs : List Nat} : eComp it g t x vs τ h = (it τ h).bind fun p h1 => compGo p.2 g t x τ.b (Z.clr vs τ.s) p.1 h1 [] := rfl
@[simp] theorem sWh_eq {t : EB} {bd : ST} {cl : List Nat} : sWh t bd cl τ h = whGo t bd cl τ.b wMax τ.s h := rfl
end
/-! ### loops -/
/-- one turn's end -/
def Turn (cl : List Nat) (I : Sl → Own → Prop) (Q : SRes → Prop) : SRes → Prop := fun r => match r with
  | .next s h => I (clr cl s) h
  | .cnt s h => I (clr cl s) h
  | .brk s h => Q (.next (clr cl s) h)
  | .ret r h => Q (.ret r h)
  | _ => False
section
variable {cl : List Nat} {I : Sl → Own → Prop} {Q : SRes → Prop} {s : Sl} {h : Own}
@[simp] theorem W_turn_next : W (.next s h) (Turn cl I Q) = I (clr cl s) h := rfl
@[simp] theorem W_turn_cnt : W (.cnt s h) (Turn cl I Q) = I (clr cl s) h := rfl
@[simp] theorem W_turn_brk : W (.brk s h) (Turn cl I Q) = W (.next (clr cl s) h) Q := rfl
@[simp] theorem W_turn_ret {r : R} : W (.ret r h) (Turn cl I Q) = W (.ret r h) Q := rfl
@[simp] theorem W_stuck_turn : W .stuck (Turn cl I Q) = False := rfl
end
/-- a for by an invariant over what is still to come -/
theorem W_for {kp : Kp} {g : ET} {bd : ST} {cl : List Nat} {b : Nat} {Q : SRes → Prop} (I : List D → Sl → Own → Prop) (hk : ∀ ds s h, I ds s h → kpOk kp h) (he : ∀ s h, I [] s h → Q (.next s h))
    (hs : ∀ d ds s h, I (d :: ds) s h → ∃ s1 h1, g d ⟨b, s⟩ h = .next s1 h1 ∧ W (bd ⟨b, s1⟩ h1) (Turn cl (I ds) Q)) : ∀ (ds : List D) (s : Sl) (h : Own), I ds s h → W (forGo kp g bd cl b ds s h) Q
  | [], s, h, i => by
    unfold forGo
    rw [if_pos (hk _ _ _ i)]
    exact he s h i
  | d :: ds, s, h, i => by
    unfold forGo
    rw [if_pos (hk _ _ _ i)]
    obtain ⟨s1, h1, e, w⟩ := hs d ds s h i
    rw [e]
    dsimp only
    unfold W at w
    cases hb : bd ⟨b, s1⟩ h1 with
    | next s2 h2 => rw [hb] at w; exact W_for I hk he hs ds _ _ w
    | cnt s2 h2 => rw [hb] at w; exact W_for I hk he hs ds _ _ w
    | brk s2 h2 => rw [hb] at w; exact w
    | ret r h2 => rw [hb] at w; exact w
    | exc c s2 h2 => rw [hb] at w; exact w.elim
    | stuck => rw [hb] at w; exact w.elim
/-- a while by an invariant and a measure -/
theorem W_wh {t : EB} {bd : ST} {cl : List Nat} {b : Nat} {Q : SRes → Prop} (I : Nat → Sl → Own → Prop)
    (hs : ∀ m s h, I m s h → ∃ k h1, t ⟨b, s⟩ h = .ok k h1 ∧ (k = false → Q (.next s h1)) ∧ (k = true → ∃ m', m = m' + 1 ∧ W (bd ⟨b, s⟩ h1) (Turn cl (fun s h => ∃ m'', m'' ≤ m' ∧ I m'' s h) Q))) : ∀ (n m : Nat) (s : Sl) (h : Own), m < n → I m s h → W (whGo t bd cl b n s h) Q
  | 0, m, s, h, hn, i => absurd hn (Nat.not_lt_zero _)
  | n + 1, m, s, h, hn, i => by
    unfold whGo
    obtain ⟨k, h1, e, ef, et⟩ := hs m s h i
    rw [e]
    cases k with
    | false => exact ef rfl
    | true =>
      obtain ⟨m', rfl, w⟩ := et rfl
      dsimp only
      unfold W at w
      cases hb : bd ⟨b, s⟩ h1 with
      | next s2 h2 => rw [hb] at w; obtain ⟨m'', hm, w⟩ := w; exact W_wh I hs n m'' _ _ (by omega) w
      | cnt s2 h2 => rw [hb] at w; obtain ⟨m'', hm, w⟩ := w; exact W_wh I hs n m'' _ _ (by omega) w
      | brk s2 h2 => rw [hb] at w; exact w
      | ret r h2 => rw [hb] at w; exact w
      | exc c s2 h2 => rw [hb] at w; exact w.elim
      | stuck => rw [hb] at w; exact w.elim
/-- a comprehension without traces -/
theorem comp_pure {α : Type} {kp : Kp} {g : ET} {t : EB} {x : ED} {b : Nat} {s : Sl} {h : Own} (item : α → D) (p : α → Bool) (el : α → D) (hk : kpOk kp h) : ∀ (as : List α) (acc : List D),
    (∀ a ∈ as, ∃ s1, g (item a) ⟨b, s⟩ h = .next s1 h ∧ t ⟨b, s1⟩ h = .ok (p a) h ∧ (p a = true → x ⟨b, s1⟩ h = .ok (el a) h)) → acc.length + as.length ≤ sizeLine →
    compGo kp g t x b s (as.map item) h acc = .ok (.n (.lst (acc ++ (as.filter p).map el))) h
  | [], acc, _, _ => by
    unfold compGo
    simp [hk]
  | a :: as, acc, hs, hl => by
    obtain ⟨s1, e1, e2, e3⟩ := hs a (List.mem_cons_self)
    rw [List.length_cons] at hl
    unfold compGo
    simp only [List.map_cons]
    rw [if_pos hk, e1]
    dsimp only
    rw [e2]
    cases hp : p a with
    | false =>
      dsimp only
      rw [comp_pure item p el hk as acc (fun y hy => hs y (List.mem_cons_of_mem _ hy)) (by omega), List.filter_cons_of_neg (by simp [hp])]
    | true =>
      dsimp only
      rw [e3 hp]
      dsimp only
      rw [if_pos (by omega), comp_pure item p el hk as (acc ++ [el a]) (fun y hy => hs y (List.mem_cons_of_mem _ hy)) (by simp; omega), List.filter_cons_of_pos hp]
      simp
/-! ### the end of a call -/
theorem call_v {G : BD} {ds : List D} {h : Own} {d : D} (nd : nrf d = true) (e : W (G h.length ds h) fun r => ∃ h1, r = .ret (.v d) h1 ∧ h1.take h.length = h) : callB G ds h = .ok (.v d) h := by
  obtain ⟨h1, e, e2⟩ := e
  unfold callB
  rw [e]
  show exitR h.length (.v d) h1 = _
  unfold exitR
  cases d <;> first | (cases nd; done) | (dsimp only; rw [if_pos nd, e2])
theorem call_n {G : BD} {ds : List D} {h : Own} {o : O} (nd : nrfO o = true) (e : W (G h.length ds h) fun r => ∃ h1, r = .ret (.n o) h1 ∧ h1.take h.length = h) : callB G ds h = .ok (.n o) h := by
  obtain ⟨h1, e, e2⟩ := e
  unfold callB
  rw [e]
  show exitR h.length (.n o) h1 = _
  unfold exitR
  dsimp only
  rw [if_pos nd, e2]
theorem call_r {G : BD} {ds : List D} {h : Own} {o : O} (nd : nrfO o = true) (nd2 : notDead o = true) (e : W (G h.length ds h) fun r => ∃ h1 m, r = .ret (.v (.ref m)) h1 ∧ h.length ≤ m ∧ h1[m]? = some o ∧ h1.take h.length = h) : callB G ds h = .ok (.n o) h := by
  obtain ⟨h1, m, e, hm, e2, e3⟩ := e
  unfold callB
  rw [e]
  show exitR h.length (.v (.ref m)) h1 = _
  unfold exitR
  dsimp only
  rw [if_neg (by omega), e2]
  dsimp only
  rw [if_pos ⟨nd, nd2⟩, e3]
end Z
set_option Elab.async false
set_option linter.all false
set_option maxRecDepth 100000
/-! Z17: heaps by places; loops as equations; bits. -/
namespace Z
open PySem PySem.Spec L2
section
variable {h l H : Own} {o : O} {n k b : Nat} {ds : List D} {x : D}
@[simp] theorem hp_get0 : (h ++ l)[List.length h]? = l[0]? := by
  rw [List.getElem?_append_right (Nat.le_refl _), Nat.sub_self]
@[simp] theorem hp_getk : (h ++ l)[List.length h + k]? = l[k]? := by
  rw [List.getElem?_append_right (Nat.le_add_right _ _), Nat.add_sub_cancel_left]
@[simp] theorem hp_set0 : (h ++ l).set h.length o = h ++ l.set 0 o := by
  rw [List.set_append, if_neg (Nat.lt_irrefl _), Nat.sub_self]
@[simp] theorem hp_setk : (h ++ l).set (h.length + k) o = h ++ l.set k o := by
  rw [List.set_append, if_neg (by omega), Nat.add_sub_cancel_left]
theorem hp_getl (hn : n < h.length) : (h ++ l)[n]? = h[n]? := List.getElem?_append_left hn
theorem hp_setl (hn : n < h.length) : (h ++ l).set n o = h.set n o ++ l := by
  rw [List.set_append, if_pos hn]
@[simp] theorem isTy_ref {T : String} : isTy T H (.ref n) = (match H[n]? with
    | some (.lst _) => T == "list"
    | some (.dK _) => T == "dict"
    | _ => false) := rfl
@[simp] theorem isTy_lst {T : String} : isTy T H (.lst ds) = (T == "list") := rfl
@[simp] theorem fAppend_eq : fAppend (.ref n) [x] b H = (match H[n]? with
    | some (.lst ds) => if ds.length < sizeLine then (match putO H b n (.lst (ds ++ [x])) with | some h' => .ok (.v .non) h' | none => .stuck) else .stuck
    | _ => .stuck) := by
  unfold fAppend chL ownL
  cases e : H[n]? with
  | none => simp [e]
  | some o =>
    cases o <;> simp only [e]
    rename_i ds
    by_cases q : ds.length < sizeLine
    · rw [if_pos q, if_pos q]
      try rfl
    · rw [if_neg q, if_neg q]
theorem putO_own (hb : b ≤ n) : putO H b n o = some (H.set n o) := by
  unfold putO
  rw [if_pos (.inl hb)]
theorem putO_nrf (hb : nrfO o = true) : putO H b n o = some (H.set n o) := by
  unfold putO
  rw [if_pos (.inr hb)]
@[simp] theorem putO_len : putO H h.length h.length o = some (H.set h.length o) := putO_own (Nat.le_refl _)
@[simp] theorem putO_lenk : putO H h.length (h.length + k) o = some (H.set (h.length + k) o) := putO_own (Nat.le_add_right _ _)
@[simp] theorem asQ_ref' : asQ H (.ref n) = (match H[n]? with
    | some (.lst ds) => some ds
    | _ => none) := rfl
@[simp] theorem asL_ref' : asL H (.ref n) = (match H[n]? with
    | some (.lst ds) => some ds
    | _ => none) := rfl
@[simp] theorem fTuple_ref : fTuple [.ref n] H = (match H[n]? with
    | some (.lst ds) => .ok (.v (.tup ds)) H
    | _ => .stuck) := by
  unfold fTuple asQ asL
  dsimp only
  cases H[n]? with
  | none => rfl
  | some o => cases o <;> rfl
@[simp] theorem fList_ref : fList [.ref n] H = (match H[n]? with
    | some (.lst ds) => .ok (.n (.lst ds)) H
    | _ => .stuck) := by
  unfold fList asQ asL
  dsimp only
  cases H[n]? with
  | none => rfl
  | some o => cases o <;> rfl
@[simp] theorem fLen_ref : fLen [.ref n] H = (match H[n]? with
    | some (.lst ds) => .ok (.v (.int ds.length)) H
    | some (.dK ds) => .ok (.v (.int ds.length)) H
    | some (.lkK ds) => .ok (.v (.int ds.length)) H
    | _ => .stuck) := by
  unfold fLen asQ asL asD
  dsimp only
  cases e : H[n]? with
  | none => simp [e]
  | some o => cases o <;> simp [e]
theorem ixN_nat {n k : Nat} (hlt : k < n) : ixN n (k : Int) = some k := by
  unfold ixN
  rw [if_pos (Int.natCast_nonneg k), if_pos (Int.ofNat_lt.mpr hlt), Int.toNat_natCast]
theorem chL_eq {f : List D → List D → Option (List D × D)} {xs ds' : List D} {r : D} (e : H[n]? = some (.lst ds)) (ef : f ds xs = some (ds', r)) (hp : b ≤ n ∨ nrfO (.lst ds') = true) : chL f (.ref n) xs b H = .ok (.v r) (H.set n (.lst ds')) := by
  unfold chL ownL
  simp only [e, ef]
  unfold putO
  rw [if_pos hp]
open Classical in
theorem fPopAt_eq {i : Int} {k : Nat} {y : D} (e : H[n]? = some (.lst ds)) (hi : i = (k : Int)) (hk : k < 1000000) (hy : ds[k]? = some y) (hp : b ≤ n ∨ nrfO (.lst (ds.eraseIdx k)) = true) :
    fPopAt (.ref n) [.int i] b H = .ok (.v y) (H.set n (.lst (ds.eraseIdx k))) := by
  subst hi
  unfold fPopAt
  refine chL_eq e ?_ hp
  have h1 := ixN_nat (List.getElem?_eq_some_iff.mp hy).1
  have h2 := r63 (Nat.le_of_lt hk)
  generalize (k : Int) = z at h1 h2 ⊢
  show (if R63 z then match ixN ds.length z with
    | some k => match ds[k]? with
      | some y => some (ds.eraseIdx k, y)
      | none => none
    | none => none else none) = _
  rw [if_pos h2, h1]
  dsimp only
  rw [hy]
theorem fPop_eq {y : D} (e : H[n]? = some (.lst (ds ++ [y]))) (hp : b ≤ n ∨ nrfO (.lst ds) = true) :
    fPop (.ref n) [] b H = .ok (.v y) (H.set n (.lst ds)) := by
  unfold fPop chL ownL
  simp only [e]
  have e1 : (ds ++ [y])[(ds ++ [y]).length - 1]? = some y := by simp
  simp only [e1, List.dropLast_concat]
  unfold putO
  rw [if_pos hp]
end
/-! ### loops as equations -/
theorem for_any {α : Type} {g : ET} {bd : ST} {cl : List Nat} {b : Nat} {s : Sl} {h : Own} {rr : R} (item : α → D) (p : α → Bool) : ∀ as : List α,
    (∀ a ∈ as, ∃ s1 s2, g (item a) ⟨b, s⟩ h = .next s1 h ∧ bd ⟨b, s1⟩ h = (if p a = true then .ret rr h else .next s2 h) ∧ clr cl s2 = s) →
    forGo none g bd cl b (as.map item) s h = if as.any p = true then .ret rr h else .next s h
  | [], _ => by
    unfold forGo
    simp
  | a :: as, hs => by
    obtain ⟨s1, s2, e1, e2, e3⟩ := hs a List.mem_cons_self
    unfold forGo
    simp only [List.map_cons]
    rw [if_pos (by simp), e1]
    dsimp only
    rw [e2]
    cases hp : p a with
    | true => simp [hp]
    | false =>
      simp only [Bool.false_eq_true, if_false]
      rw [e3, for_any item p as (fun y hy => hs y (List.mem_cons_of_mem _ hy))]
      simp [hp]
/-- a for that carries a state, its invariant by places -/
theorem for_fold {α σ : Type} {g : ET} {bd : ST} {cl : List Nat} {b : Nat} (item : α → D) (enc : σ → Sl) (eh : σ → Own) (step : σ → α → σ) (Inv : σ → Prop) : ∀ (as : List α) (st : σ),
    (∀ a ∈ as, ∀ st, Inv st → Inv (step st a) ∧ ∃ s1 s2, g (item a) ⟨b, enc st⟩ (eh st) = .next s1 (eh st) ∧ bd ⟨b, s1⟩ (eh st) = .next s2 (eh (step st a)) ∧ clr cl s2 = enc (step st a)) → Inv st →
    Inv (as.foldl step st) ∧ forGo none g bd cl b (as.map item) (enc st) (eh st) = .next (enc (as.foldl step st)) (eh (as.foldl step st))
  | [], st, _, i => by
    unfold forGo
    simp [i]
  | a :: as, st, hs, i => by
    obtain ⟨i2, s1, s2, e1, e2, e3⟩ := hs a List.mem_cons_self st i
    obtain ⟨j1, j2⟩ := for_fold (g := g) (bd := bd) (cl := cl) (b := b) item enc eh step Inv as (step st a) (fun y hy => hs y (List.mem_cons_of_mem _ hy)) i2
    refine ⟨j1, ?_⟩
    unfold forGo
    simp only [List.map_cons]
    rw [if_pos (by simp), e1]
    dsimp only
    rw [e2]
    dsimp only
    rw [e3]
    exact j2
/-- the turns of a range -/
theorem rngD_nat (lo n : Nat) : rngD (lo : Int) n = (List.range' lo n).map fun k : Nat => D.int (k : Int) := by
  unfold rngD
  rw [List.range'_eq_map_range, List.map_map]
  apply List.map_congr_left
  intro i _
  simp
theorem rngD_zero (n : Nat) : rngD 0 n = (List.range n).map fun k : Nat => D.int (k : Int) := by
  unfold rngD
  apply List.map_congr_left
  intro i _
  simp
/-! ### bits -/
theorem bnot2 (a : Int) : Builtin.bitNot (Builtin.bitNot a) = a := by
  unfold Builtin.bitNot
  omega
theorem bor_nat (a b : Nat) : Builtin.bitOr (a : Int) (b : Int) = ((a ||| b : Nat) : Int) := by
  have ha : decide ((0 : Int) ≤ Builtin.bitNot (a : Int)) = false := by unfold Builtin.bitNot; rw [decide_eq_false_iff_not]; omega
  have hb : decide ((0 : Int) ≤ Builtin.bitNot (b : Int)) = false := by unfold Builtin.bitNot; rw [decide_eq_false_iff_not]; omega
  unfold Builtin.bitOr Builtin.bitAnd
  rw [ha, hb]
  dsimp only
  rw [bnot2, bnot2, bnot2, Int.toNat_natCast, Int.toNat_natCast]
/-- a & ~b -/
theorem band_not (a b : Nat) : Builtin.bitAnd (a : Int) (-(b : Int) - 1) = ((a - (a &&& b) : Nat) : Int) := by
  have ha : decide ((0 : Int) ≤ (a : Int)) = true := by rw [decide_eq_true_iff]; omega
  have hb : decide ((0 : Int) ≤ -(b : Int) - 1) = false := by rw [decide_eq_false_iff_not]; omega
  have e : Builtin.bitNot (-(b : Int) - 1) = (b : Int) := by unfold Builtin.bitNot; omega
  unfold Builtin.bitAnd
  rw [ha, hb, e]
  dsimp only
  rw [Int.toNat_natCast, Int.toNat_natCast]
  have : a &&& b ≤ a := Nat.and_le_left
  omega
theorem sub_and_bit (a b i : Nat) : (a - (a &&& b)).testBit i = (a.testBit i && !b.testBit i) := by
  induction i generalizing a b with
  | zero =>
    have h1 := @Nat.and_mod_two_eq_one a b
    have h2 : a &&& b ≤ a := Nat.and_le_left
    simp only [Nat.testBit_zero]
    rw [Bool.eq_iff_iff]
    simp only [decide_eq_true_eq, Bool.and_eq_true, Bool.not_eq_true', decide_eq_false_iff_not]
    omega
  | succ i ih =>
    rw [Nat.testBit_succ, Nat.testBit_succ, Nat.testBit_succ, ← ih (a / 2) (b / 2)]
    congr 1
    have h1 : (a &&& b) / 2 = (a / 2) &&& (b / 2) := Nat.and_div_two
    have h2 : a &&& b ≤ a := Nat.and_le_left
    have h3 : (a / 2) &&& (b / 2) ≤ a / 2 := Nat.and_le_left
    have h4 := @Nat.and_mod_two_eq_one a b
    omega
/-- blocked >> k & 1 -/
theorem shr_bit (m k : Nat) : Builtin.bitAnd ((m : Int) / 2 ^ k) 1 = if m.testBit k then 1 else 0 := by
  have e : ((m : Int) / 2 ^ k) = ((m >>> k : Nat) : Int) := by
    rw [Nat.shiftRight_eq_div_pow]
    norm_cast
  have e1 : Builtin.bitAnd ((m >>> k : Nat) : Int) 1 = ((m >>> k : Nat) : Int) % 2 := PyProof.Rows.bitAnd_m1 _
  rw [e, e1, Nat.testBit, Nat.and_comm]
  have h1 : m >>> k &&& 1 = (m >>> k) % 2 := Nat.and_one_is_mod _
  rw [h1]
  generalize m >>> k = x
  rcases Nat.mod_two_eq_zero_or_one x with z | z
  · rw [z]
    simp
    omega
  · rw [z]
    simp
    omega
end Z
set_option Elab.async false
set_option linter.all false
set_option maxRecDepth 100000
/-! Z18: loops by the number of turns done. -/
namespace Z
open PySem PySem.Spec L2
theorem W_list {α : Type} {g : ET} {bd : ST} {cl : List Nat} {b : Nat} {Q : SRes → Prop} {kp : Kp} (item : α → D) (as : List α) (I : Nat → Sl → Own → Prop) {s : Sl} {h : Own} (i0 : I 0 s h) (hk : ∀ k s h, k ≤ as.length → I k s h → kpOk kp h)
    (hs : ∀ k s h (hk : k < as.length), I k s h → ∃ s1 h1, g (item as[k]) ⟨b, s⟩ h = .next s1 h1 ∧ W (bd ⟨b, s1⟩ h1) (Turn cl (I (k + 1)) Q)) (he : ∀ s h, I as.length s h → Q (.next s h)) :
    W (forGo kp g bd cl b (as.map item) s h) Q := by
  have key : ∀ (r : List α) (k : Nat) (s : Sl) (h : Own), as.drop k = r → k ≤ as.length → I k s h → W (forGo kp g bd cl b (r.map item) s h) Q := by
    intro r
    induction r with
    | nil =>
      intro k s h e hkl i
      have : k = as.length := by
        have := congrArg List.length e
        simp at this
        omega
      subst this
      unfold forGo
      simp only [List.map_nil]
      rw [if_pos (hk _ _ _ hkl i)]
      exact he s h i
    | cons a r ih =>
      intro k s h e hkl i
      have hlt : k < as.length := by
        have := congrArg List.length e
        simp at this
        omega
      have ea : as[k] = a := by
        have := List.drop_eq_getElem_cons hlt
        rw [e] at this
        exact (List.cons.inj this).1.symm
      have er : as.drop (k + 1) = r := by
        have := List.drop_eq_getElem_cons hlt
        rw [e] at this
        exact (List.cons.inj this).2.symm
      obtain ⟨s1, h1, e1, w⟩ := hs k s h hlt i
      rw [ea] at e1
      unfold forGo
      simp only [List.map_cons]
      rw [if_pos (hk _ _ _ hkl i), e1]
      dsimp only
      unfold W at w
      cases hb : bd ⟨b, s1⟩ h1 with
      | next s2 h2 => rw [hb] at w; exact ih (k + 1) _ _ er hlt w
      | cnt s2 h2 => rw [hb] at w; exact ih (k + 1) _ _ er hlt w
      | brk s2 h2 => rw [hb] at w; exact w
      | ret r h2 => rw [hb] at w; exact w
      | exc c s2 h2 => rw [hb] at w; exact w.elim
      | stuck => rw [hb] at w; exact w.elim
  exact key as 0 s h rfl (Nat.zero_le _) i0
theorem W_range' {g : ET} {bd : ST} {cl : List Nat} {b : Nat} {Q : SRes → Prop} (lo n : Nat) (I : Nat → Sl → Own → Prop) {s : Sl} {h : Own} (i0 : I 0 s h)
    (hs : ∀ k s h, k < n → I k s h → ∃ s1 h1, g (.int ((lo + k : Nat) : Int)) ⟨b, s⟩ h = .next s1 h1 ∧ W (bd ⟨b, s1⟩ h1) (Turn cl (I (k + 1)) Q)) (he : ∀ s h, I n s h → Q (.next s h)) :
    W (forGo none g bd cl b (rngD (lo : Int) n) s h) Q := by
  rw [rngD_nat]
  refine W_list (fun k : Nat => D.int (k : Int)) (List.range' lo n) I i0 (fun _ _ _ _ _ => by simp) (fun k s h hk i => ?_) (fun s h i => he s h (by simpa using i))
  have := hs k s h (by simpa using hk) i
  simpa using this
theorem W_range {g : ET} {bd : ST} {cl : List Nat} {b : Nat} {Q : SRes → Prop} (n : Nat) (I : Nat → Sl → Own → Prop) {s : Sl} {h : Own} (i0 : I 0 s h)
    (hs : ∀ k s h, k < n → I k s h → ∃ s1 h1, g (.int (k : Int)) ⟨b, s⟩ h = .next s1 h1 ∧ W (bd ⟨b, s1⟩ h1) (Turn cl (I (k + 1)) Q)) (he : ∀ s h, I n s h → Q (.next s h)) :
    W (forGo none g bd cl b (rngD 0 n) s h) Q :=
  W_range' 0 n I i0 (fun k s h hk i => by simpa using hs k s h hk i) he
/-- a comprehension over a range -/
theorem comp_range {g : ET} {t : EB} {x : ED} {b : Nat} {s : Sl} {h : Own} (p : Nat → Bool) (el : Nat → D) (n : Nat)
    (hs : ∀ k, k < n → ∃ s1, g (.int (k : Int)) ⟨b, s⟩ h = .next s1 h ∧ t ⟨b, s1⟩ h = .ok (p k) h ∧ (p k = true → x ⟨b, s1⟩ h = .ok (el k) h)) (hl : n ≤ sizeLine) :
    compGo none g t x b s (rngD 0 n) h [] = .ok (.n (.lst (((List.range n).filter p).map el))) h := by
  rw [rngD_zero, comp_pure (fun k : Nat => D.int (k : Int)) p el (by simp) (List.range n) [] (fun a ha => hs a (List.mem_range.mp ha)) (by simpa using hl)]
  simp
theorem W_ok {r : SRes} {Q : SRes → Prop} (h : Q r) : W r Q := h
section
variable {b : ST} {k : Nat} {Q : SRes → Prop} {s : Sl} {h : Own} {r : R} {cl : List Nat} {I : Sl → Own → Prop}
@[simp] theorem Th_next : Th b k Q (.next s h) = W (b ⟨k, s⟩ h) Q := rfl
@[simp] theorem Th_ret : Th b k Q (.ret r h) = W (.ret r h) Q := rfl
@[simp] theorem Th_brk : Th b k Q (.brk s h) = W (.brk s h) Q := rfl
@[simp] theorem Th_cnt : Th b k Q (.cnt s h) = W (.cnt s h) Q := rfl
@[simp] theorem Turn_next : Turn cl I Q (.next s h) = I (clr cl s) h := rfl
@[simp] theorem Turn_cnt : Turn cl I Q (.cnt s h) = I (clr cl s) h := rfl
@[simp] theorem Turn_brk : Turn cl I Q (.brk s h) = W (.next (clr cl s) h) Q := rfl
@[simp] theorem Turn_ret : Turn cl I Q (.ret r h) = W (.ret r h) Q := rfl
end
theorem W_ite {c : Prop} [Decidable c] {x y : SRes} {Q : SRes → Prop} : W (if c then x else y) Q = if c then W x Q else W y Q := by
  split <;> rfl
theorem sz (n : Nat) (h : n ≤ 1000000) : n ≤ sizeLine := Nat.le_trans h (by decide)
theorem szl {n : Nat} (h : n ≤ 1000000) : n < sizeLine := Nat.lt_of_le_of_lt h (by decide)
theorem cut_hi {xs : List D} {i : Int} {k : Nat} (e : i = (k : Int)) (h : k ≤ xs.length) : cutD xs none (some i) = xs.take k := by
  subst e
  unfold cutD
  rw [HT.sIx_none, HT.sIx_nat, Nat.min_eq_left h]
  simp
theorem cut_lo {xs : List D} {i : Int} {k : Nat} (e : i = (k : Int)) (h : k ≤ xs.length) : cutD xs (some i) none = xs.drop k := by
  subst e
  unfold cutD
  rw [HT.sIx_none, HT.sIx_nat, Nat.min_eq_left h]
  rw [List.take_of_length_le]
  simp
@[simp] theorem fSl_tup {ds : List D} {lo hi : Option Int} {h : Own} : fSl (.tup ds) lo hi h = .ok (.v (.tup (cutD ds lo hi))) h := rfl
@[simp] theorem fSl_lst {ds : List D} {lo hi : Option Int} {h : Own} : fSl (.lst ds) lo hi h = .ok (.n (.lst (cutD ds lo hi))) h := rfl
@[simp] theorem clr_nil {s : Sl} : clr [] s = s := rfl
@[simp] theorem clr_cons {s : Sl} {i : Nat} {cl : List Nat} : clr (i :: cl) s = clr cl (s.set i none) := rfl
/-- a comprehension by an invariant -/
theorem comp_ind {α : Type} {g : ET} {t : EB} {x : ED} {b : Nat} {s : Sl} (item : α → D) (as : List α) (I : Nat → List D → Own → Prop) (hl : as.length ≤ sizeLine)
    (hs : ∀ k acc h (hk : k < as.length), I k acc h → ∃ s1 h1 h2, g (item as[k]) ⟨b, s⟩ h = .next s1 h1 ∧ ((t ⟨b, s1⟩ h1 = .ok false h2 ∧ I (k + 1) acc h2) ∨ (t ⟨b, s1⟩ h1 = .ok true h2 ∧ ∃ y h3, x ⟨b, s1⟩ h2 = .ok y h3 ∧ I (k + 1) (acc ++ [y]) h3))) {h : Own} (i0 : I 0 [] h) :
    ∃ acc h', compGo none g t x b s (as.map item) h [] = .ok (.n (.lst acc)) h' ∧ I as.length acc h' := by
  have key : ∀ (r : List α) (k : Nat) (acc : List D) (h : Own), as.drop k = r → k ≤ as.length → acc.length ≤ k → I k acc h → ∃ acc' h', compGo none g t x b s (r.map item) h acc = .ok (.n (.lst acc')) h' ∧ I as.length acc' h' := by
    intro r
    induction r with
    | nil =>
      intro k acc h e hkl _ i
      have : k = as.length := by
        have := congrArg List.length e
        simp at this
        omega
      subst this
      refine ⟨acc, h, ?_, i⟩
      unfold compGo
      simp
    | cons a r ih =>
      intro k acc h e hkl hal i
      have hlt : k < as.length := by
        have := congrArg List.length e
        simp at this
        omega
      have ea : as[k] = a := by
        have := List.drop_eq_getElem_cons hlt
        rw [e] at this
        exact (List.cons.inj this).1.symm
      have er : as.drop (k + 1) = r := by
        have := List.drop_eq_getElem_cons hlt
        rw [e] at this
        exact (List.cons.inj this).2.symm
      obtain ⟨s1, h1, h2, e1, w⟩ := hs k acc h hlt i
      rw [ea] at e1
      unfold compGo
      simp only [List.map_cons]
      rw [if_pos (by simp), e1]
      dsimp only
      rcases w with ⟨e2, i2⟩ | ⟨e2, y, h3, e3, i2⟩
      · rw [e2]
        dsimp only
        exact ih (k + 1) acc h2 er hlt (by omega) i2
      · rw [e2]
        dsimp only
        rw [e3]
        dsimp only
        rw [if_pos (by omega)]
        exact ih (k + 1) _ h3 er hlt (by simp; omega) i2
  exact key as 0 [] h rfl (Nat.zero_le _) (Nat.zero_le _) i0
end Z
set_option Elab.async false
set_option linter.all false
set_option maxRecDepth 100000
/-! Z19: raise, try, an instance whose making may raise. -/
namespace Z
open PySem PySem.Spec L2
section
variable {ca : Cn} {X : Cx} {W : WF} {pos : Pos} {e a b c : Expr}
def sRaise (c : Nat) : ST := fun τ h => .exc c τ.s h
theorem ss_raise {c : Nat} (hc : X.calm = true) (tk : Takes X W) (hp : PMk X e (fun _ H Q => Q (.ref (ca.ad c)) none H)) : SS ca X W (.Raise (some e) none pos) (sRaise c) :=
  PS.imp (ps_raise hc tk hp) fun D σ H ⟨μ, F, τ, h, A, p⟩ => p μ F H σ Ext.refl A.rel A.sl
/-- try: x / except one of cs: y -/
def nox : SRes → SRes
  | .exc _ _ _ => .stuck
  | r => r
def sTry (cs : List Nat) (x y : ST) : ST := fun τ h => match x τ h with
  | .exc c s h1 => if c ∈ cs then nox (y ⟨τ.b, s⟩ h1) else .stuck
  | r => r
theorem ss_try {x : Str} {cv : Value} {cs : List Nat} {body suite : List Stmt} {b₀ : Stmt} {np pos' : Pos} {tb ts : ST} (hs : X.stack = X.env :: X.outer) (hf : X.env.frame = some X.env.locals) (hc : Names X x cv)
    (he : ∀ c ∈ cs, PySem.W.exmOne X.K (.ref (ca.ad c)) cv = some true)
    (hb : ∀ (W : WF) (pn : List (Addr × Obj)) (xe : Value → Shared → Prop), Takes (X.tr pn xe) W → SSs ca (X.tr pn xe) W body tb)
    (hsu : ∀ (a : Addr) (pn : List (Addr × Obj)), SSs ca (X.suite a pn) W0 (b₀ :: suite) ts) :
    SS ca X W (.Try body [.ExceptHandler (some (.Name x np)) none (b₀ :: suite) pos'] [] [] pos) (sTry cs tb ts) :=
  PS.imp (ps_try_only (Wout := W0) hs hf hc (fun u s' ⟨_, _, _, _, _, _, _, _, _, _, _, _, _, _, _, _, z⟩ => z.elim) (fun W pn xe tk _ => hb W pn xe tk) (fun a oe cls d pn _ _ => hsu a _)) fun D σ H ⟨μ, F, τ, h, A, p⟩ => by
    refine ⟨μ, F, τ, h, A, ?_⟩
    unfold sTry at p
    cases hx : tb τ h with
    | exc c s h1 =>
      rw [hx] at p
      dsimp only at p
      by_cases hm : c ∈ cs
      · rw [if_pos hm] at p
        intro μ1 F1 H1 σ1 E1 R1 S1
        refine ⟨true, he c hm, fun _ a ha => ⟨μ1, F1, ⟨τ.b, s⟩, h1, ⟨R1, S1, Nat.le_trans A.bl (E1.len A.rel R1)⟩, ?_⟩, fun z => nomatch z⟩
        have p2 := p.step E1
        show PostS ca W0 τ.b μ1 F1 H1 h1 (ts ⟨τ.b, s⟩ h1) D
        cases ht : ts ⟨τ.b, s⟩ h1 with
        | exc c' s' h' => rw [ht] at p2; exact p2.elim
        | _ => rw [ht] at p2; exact p2
      · rw [if_neg hm] at p
        exact p.elim
    | _ => rw [hx] at p; exact p
/-! ### C(..) that may raise -/
def eMkX (c n : Nat) (G : BD) (xs : EA) : EX := fun τ h => (xs τ h).bind fun ds h1 => if ds.length + 1 = n then
  (match G h1.length (.ref h1.length :: ds) (h1 ++ [.ins c []]) with
  | .next _ h3 => match h3[h1.length]? with
    | some (.ins c' fs) => if nrfs fs = true then .ok (.n (.ins c' fs)) (h3.take h1.length) else .stuck
    | _ => .stuck
  | .exc k _ h3 => .exc k (h3.take h1.length)
  | _ => .stuck) else .stuck
section
variable {CX : CXT} {k : Nat} {f C : Addr} {fd : FuncData} {ps : List Str} {sp : Sp} {E : St → XK} {x : Str} {p : Pos} {es : List Expr} {t : TA}
theorem run_makeS {pins : List (Addr × Obj)} {σ : St} {H : Hp} {s : Shared} {Q : VK} {us : List Value} {vs : List V} (M : Mk X.K C f) (F : FnOk X.prog X.w X.K X.mg X.base CX k f fd ps sp) (hr : Room (k + 1) X.A) (hb : Binds X.K fd ps [])
    (hx : PassesAt CX X σ (E σ)) (I : Inv X pins σ H s) (r : Vals vs us)
    (h : ∀ x dx, H x = none → H dx = none → dx ≠ x → sp (.ref x :: vs) (upd (upd H dx (.own x)) x (.ins C dx [])) (fun v H2 => v = .non ∧ Q (.ref x) H2) (E σ)) :
    wpAny (model X.prog X.w) X.A (call (.ref C) us) (EP X pins σ Q) X.xe s := by
  have q0 := h (s.heap.objs.size + 1) s.heap.objs.size (I.hok.fresh (Nat.le_succ _)) (I.hok.fresh (Nat.le_refl _)) (Nat.ne_of_lt (Nat.lt_succ_self _))
  have J := Inv.made (C := C) I
  have rr : Vals (V.ref (s.heap.objs.size + 1) :: vs) (Value.ref (s.heap.objs.size + 1) :: us) := .cons rfl r
  have hl : (Value.ref (s.heap.objs.size + 1) :: us ++ []).length = ps.length := by
    rw [List.append_nil, ← rr.length]
    exact F.len _ _ _ _ q0
  have hbb := hb _ (Value.ref (s.heap.objs.size + 1) :: us) J.kIn hl
  rw [List.append_nil] at hbb
  refine wpAny_call (make_map (f := f) I.kIn M.makes M.init (beq_iff_eq.mp M.fn) (codeAny_mono (F.run _ X.stack _ _ ⟨Value.ref (s.heap.objs.size + 1) :: us, []⟩ (Value.ref (s.heap.objs.size + 1) :: us) _ _ (E σ) (hr.make C us [])
    (J.env0.make C us []) hbb rr q0) fun r s' q => ?_))
  match r, q with
  | .error e, q => exact hx pins _ _ e s' J q
  | .ok (.ret u), q =>
    obtain ⟨v, H', I3, rv, rfl, q3⟩ := J.after q
    exact ⟨rv, V.ref (s.heap.objs.size + 1), H', I3, rfl, q3⟩
  | .ok .next, q => exact q.elim
  | .ok .brk, q => exact q.elim
  | .ok .cont, q => exact q.elim
def tMakeS (C : Addr) (sp : Sp) (E : St → XK) (t : TA) : TE := fun σ H Q => t σ H fun vs H1 => ∀ x dx, H1 x = none → H1 dx = none → dx ≠ x → sp (.ref x :: vs) (upd (upd H1 dx (.own x)) x (.ins C dx [])) (fun v H2 => v = .non ∧ Q (.ref x) H2) (E σ)
theorem pe_makeS (M : Mk X.K C f) (F : FnOk X.prog X.w X.K X.mg X.base CX k f fd ps sp) (hr : Room (k + 1) X.A) (hg : Gl X x) (hm : X.mg x = some (.ref C)) (hb : Binds X.K fd ps []) (hx : ∀ σ, PassesAt CX X σ (E σ))
    (ha : PA X (e :: es) t) (hdb : (x == ("__debug__" : Str)) = false) (he : starEach (e :: es) X.env = (false, eval e X.env) :: starEach es X.env) (hpl : (backTo pos (starEach es X.env)).any (·.1) = false) :
    PE X (.Call (.Name x p) (e :: es) [] pos) (tMakeS C sp E t) :=
  ⟨fun pins s σ H Q I h => wpAny_Call_Name_kw (ld_glob I hg hm (PySem.W.callWith_K (h₀ := X.base) I.ok.mod.kin M.kp (thn (ha.run pos pins s σ H _ I h) fun us s1 ⟨vs, H1, I1, r, q⟩ => ⟨I1.kIn, run_makeS M F hr hb (hx σ) I1 r q⟩) he hpl) hdb)⟩
end
theorem se_mkX {C f : Addr} {cn n : Nat} {fd : FuncData} {ps : List Str} {k : Nat} {G : BD} {x : Str} {p : Pos} {es : List Expr} {xs : EA} (hn : ps.length = n) (hC : ca.ad cn = C) (M : Mk X.K C f) (F : FnOk X.prog X.w X.K X.mg X.base (L2.CX X.prog X.w) k f fd ps (spB ca n G)) (hr : Room (k + 1) X.A)
    (hg : Gl X x) (hm : X.mg x = some (.ref C)) (hb : Binds X.K fd ps []) (tk : Takes X W) (ha : SA ca X W (e :: es) xs) (hdb : (x == ("__debug__" : Str)) = false) (he : starEach (e :: es) X.env = (false, eval e X.env) :: starEach es X.env)
    (hpl : (backTo pos (starEach es X.env)).any (·.1) = false) : SE ca X W (.Call (.Name x p) (e :: es) [] pos) (eMkX cn n G xs) :=
  PE.imp (pe_makeS M F hr hg hm hb (fun σ => passAt tk σ) ha hdb he hpl) fun σ H Q ⟨μ, F, τ, h, A, p⟩ => ⟨μ, F, τ, h, A, p.bind.imp fun ds μ1 F1 H1 h1 E1 R1 q vs Vs => by
    intro x dx hx hdx hne
    have A1 := A.ext E1 R1
    by_cases hn : ds.length + 1 = n
    · rw [if_pos hn] at q
      have hne' : H1 x = none → upd H1 dx (.own x) x = none := fun z => by rw [upd_ne (Ne.symm hne)]; exact z
      have Ea : Ext h1.length μ1 F1 H1 h1 μ1 F1 (upd (upd H1 dx (.own x)) x (.ins C dx [])) h1 := (Ext.refl.upd hdx).upd (hne' hx)
      have Ra : RelH ca μ1 F1 h1 (upd (upd H1 dx (.own x)) x (.ins C dx [])) := (R1.upd hdx).upd (hne' hx)
      have hxm : x ∉ μ1 := fun z => R1.dom x z hx
      have hxF : F1 x = none := by
        cases q : F1 x with
        | none => rfl
        | some w => exact absurd (R1.fz _ _ q) (by rw [hx]; exact fun z => nomatch z)
      have E2 : Ext h1.length μ1 F1 H1 h1 (μ1 ++ [x]) F1 (upd (upd H1 dx (.own x)) x (.ins C dx [])) (h1 ++ [.ins cn []]) := Ea.alloc hx (Nat.le_refl _)
      have R2 : RelH ca (μ1 ++ [x]) F1 (h1 ++ [.ins cn []]) (upd (upd H1 dx (.own x)) x (.ins C dx [])) := Ra.alloc (by rw [upd_same]; simp) hxm hxF ⟨dx, [], by rw [upd_same, hC], rfl, .nil⟩
      have ix : (μ1 ++ [x])[h1.length]? = some x := by rw [← R1.len]; simp
      refine ⟨μ1 ++ [x], F1, h1 ++ [.ins cn []], .ref h1.length :: ds, h1.length, R2, .cons (.ref ix) (E2.vrs Vs), by rw [List.length_cons]; exact hn, by simp, ?_⟩
      cases hG : G h1.length (.ref h1.length :: ds) (h1 ++ [.ins cn []]) with
      | next s h3 =>
        rw [hG] at q
        intro μ3 F3 H3 E3 R3
        have E4 := E2.trans E3
        obtain ⟨Rc, Ec⟩ := cut_ok R1 E4 R3
        have ix3 := E3.ix _ _ ix
        refine ⟨rfl, ?_⟩
        dsimp only at q
        split at q
        · rename_i c' fs e3
          by_cases hf : nrfs fs = true
          · rw [if_pos hf] at q
            exact q μ1 F3 H3 (Ec τ.b A1.bl) Rc (.ref x) ⟨x, rfl, E1.fresh hx, R3.dom x (List.mem_of_getElem? ix3), hxm, R3.sep _ x _ ix3 e3 (fun z => nomatch z), (R3.ob _ x _ ix3 e3).nrf hf⟩
          · rw [if_neg hf] at q; exact q.elim
        · exact q.elim
      | exc k' s h3 =>
        rw [hG] at q
        intro μ3 F3 H3 E3 R3
        obtain ⟨Rc, Ec⟩ := cut_ok R1 (E2.trans E3) R3
        exact q μ1 F3 H3 (Ec τ.b A1.bl) Rc
      | _ => rw [hG] at q; exact q.elim
    · rw [if_neg hn] at q; exact q.elim⟩
end
end Z
set_option Elab.async false
set_option linter.all false
set_option maxRecDepth 100000
/-! Z20: enumerate of a tuple. -/
namespace Z
open PySem PySem.Spec L2
/-- enumerate(v) of one argument, v told by what its iterator is -/
theorem en1_meets {v : Value} {o : Obj} {H : Heap → Prop} (B : Begins v o H) :
    Meets (Builtin.«enumerate.__new__» ⟨[.type "enumerate", v], []⟩) (fun _ R s => H s.heap ∧
      R (.ok (.ret (.ref (s.heap.push o).objs.size))) { s with heap := (s.heap.push o).push { cls := .type "enumerate", data := .fields #[.none, .bool false, .ref s.heap.objs.size, rawInt 0, .none, .none] } }) :=
  .of_wp fun prog w A R s z => by
    obtain ⟨hp, g, d, tk, os⟩ := s
    obtain ⟨z1, z2⟩ := z
    have hsub := sub_enumerate
    have it1 : ∀ {A' : Around} {E : Value → Shared → Prop} {Q : Value → Shared → Prop}, Q (.ref hp.objs.size) ⟨hp.push o, g, d, tk, os⟩ → wpAny (model prog w) A' (pyIter v) Q E ⟨hp, g, d, tk, os⟩ :=
      fun q => B.iter prog w _ _ ⟨hp, g, d, tk, os⟩ _ z1 q
    wp_walk using it1
    refine wpAny_stack_any fun st => wpAny_pure ?_
    split
    · rename_i c _ _ _ _ _
      cases (c == Value.type "enumerate") <;> (wp_walk using it1; exact ⟨_, rfl, z2⟩)
    · wp_walk using it1
      exact ⟨_, rfl, z2⟩
section
variable {prog : Program} {w : World} {A : Around} {E : Value → Shared → Prop} {s : Shared}
theorem en1_call {v : Value} {o : Obj} {H : Heap → Prop} {Q : Value → Shared → Prop} (B : Begins v o H) (h1 : H s.heap)
    (h : ∀ h', IsEnum h' (s.heap.objs.size + 1) s.heap.objs.size 0 .none → h'.get? s.heap.objs.size = some o → (∀ b u, s.heap.get? b = some u → h'.get? b = some u) → Q (.ref (s.heap.objs.size + 1)) { s with heap := h' }) :
    wpAny (model prog w) A (call (.type "enumerate") [v]) Q E s := by
  refine callType_new F.called_enumerate (by decide) (F.typeCall_enumerate_1 _) (F.newCall_enumerate_1 _) (fun obj => F.args_object_init_2 obj _) F.entry_enumerate_new (en1_meets B) ⟨h1, ?_⟩
  have sz : (s.heap.push o).objs.size = s.heap.objs.size + 1 := Heap.size_push ..
  have e0 : ((s.heap.push o).push { cls := .type "enumerate", data := .fields #[.none, .bool false, .ref s.heap.objs.size, rawInt 0, .none, .none] }).get? (s.heap.push o).objs.size = some { cls := .type "enumerate", data := .fields #[.none, .bool false, .ref s.heap.objs.size, rawInt 0, .none, .none] } := Heap.get?_push_size _ rfl
  show _ ∧ _
  rw [sz] at e0 ⊢
  exact ⟨⟨_, e0, rfl⟩, h _ e0 (Heap.get?_push_of_some _ (Heap.get?_push_size _ B.free)) fun b u x => Heap.get?_push_of_some _ (Heap.get?_push_of_some _ x)⟩
end
/-- the tuple at a, each item in a new pair -/
def IteT (K : PySem.W.Frag) (a : Addr) : It :=
  ⟨fun i H => ∃ (xs : List V) (x : V), SqT K H a xs ∧ xs[i]? = some x, fun i H v H' => ∃ T x, v = .ref T ∧ H T = none ∧ H' = upd H T (.tup [.int (i : Nat), x]) ∧ ∀ xs, SqT K H a xs → xs[i]? = some x, fun i H => ∃ xs : List V, SqT K H a xs ∧ xs.length ≤ i⟩
theorem enT_end {prog : Program} {w : World} {A : Around} {E : Value → Shared → Prop} {s : Shared} {e it l : Addr} {i : Nat} {items : Array Value} {old : Value} {Q : Option Value → Shared → Prop} (hh : A.handled = none)
    (he : IsEnum s.heap e it i old) (hit : s.heap.IsTupleIter it l i) (hl : s.heap.IsTuple l items) (hx : items[i]? = none) (hQ : ∀ h', Heap.ExtBut it s.heap h' → Q none { s with heap := h' }) : wpAny (model prog w) A (pyNext (.ref e)) Q E s := by
  have T : s.TypeIs (.ref e) "enumerate" := ⟨_, he, rfl⟩
  unfold pyNext
  refine wpAny_bind (wpAny_attempt (wpAny_callSpecial?_slot (name := Str.ofString "__next__") T F.slot_enumerate_next (wpAny_call_entry F.slot_enumerate_next T F.entry_enumerate_next ?_ (F.args_enumerate_next_1 _))))
  show wpAny _ _ (field (.ref e) 2 >>= _) _ _ _
  refine wpAny_bind (wpAny_field he rfl (x := .ref it) rfl (wpAny_bind (wpAny_nextOf_tuple_end hh hit hl hx fun h' x ex ⟨o, ho, hc⟩ => ?_)))
  exact wpAny_bind (wpAny_isInstance (T := "StopIteration") (b := true) ⟨o, ho, hc⟩ isSubtype_stop (wpAny_pure (hQ _ ex)))
theorem turn_enT {P : Program} {w : World} {K : PySem.W.Frag} {elts : List Expr} {kk : Nat} {tpos : Pos} (a e it : Addr) :
    L2.Turn P w K (.Tuple elts kk tpos) (IteT K a) [e, it] e (fun i h => (∃ old, IsEnum h e it ((i : Nat) : Int) old) ∧ h.IsTupleIter it a i ∧ e ≠ it) where
  mem := by simp
  obj := fun i h st b hb => by
    obtain ⟨⟨old, he⟩, ⟨o, ho, hc, hd⟩, _⟩ := st
    have e' : b = e ∨ b = it := by simpa using hb
    rcases e' with rfl | rfl
    · exact ⟨_, he, fun v q => nomatch q⟩
    · exact ⟨o, ho, fun v q => by rw [hd] at q; cases q⟩
  keep := fun i h h' st k => let ⟨⟨old, he⟩, hi, hne⟩ := st; ⟨⟨old, k e (by simp) _ he⟩, hi.at fun o q => k it (by simp) o q, hne⟩
  item := by
    intro X hP hw hK hc i pins s σ H E I hf st hg
    subst hP hw hK
    obtain ⟨⟨old, he⟩, hit, hne⟩ := st
    obtain ⟨xs, x, hq, hx⟩ := hg
    obtain ⟨its, rv, p, hz⟩ := I.tuple hq
    obtain ⟨u, hu, ru⟩ := rv.get hx
    have hel : e < s.heap.objs.size := Heap.lt_size he
    have hil : it < s.heap.objs.size := by obtain ⟨_, q, _⟩ := hit; exact Heap.lt_size q
    have hai : a ≠ it := by
      rintro rfl
      obtain ⟨o1, g1, c1, _⟩ := hit
      obtain ⟨o2, g2, c2, _⟩ := p
      rw [g1] at g2
      cases g2
      rw [c1] at c2
      injection c2 with z
      exact absurd z (by decide)
    have hae : e ≠ a := by
      rintro rfl
      obtain ⟨o2, g2, c2, _⟩ := p
      rw [he] at g2
      cases g2
      injection c2 with z
      exact absurd z (by decide)
    have D := Draws.tuple (prog := X.prog) (w := X.w) (A := X.A.in1) (I.ok.hd hc) it a hai its.toArray
    refine wpAny_pyNext_enum_itemC D he ⟨hit, p⟩ (by simpa using (List.getElem?_eq_some_iff.mp hu).1) hne (by simp [hne, hae]) fun y h' tk hy ho hst' hT hsz hk => ?_
    have hyu : y = u := by simpa [hu] using hy.symm
    subst hyu
    refine ⟨_, rfl, wpAny_letOwnedTupleGo_enum (s := { s with heap := h', toks := tk + 1 }) ho fun h'' he' sb => ?_⟩
    have hT2 : h''.get? s.heap.objs.size = some { cls := .type "tuple", data := .seq #[.int i tk, y] } := (sb.2 _ (Nat.ne_of_gt hel)).trans hT
    have new : ObjOk X.prog X.w (upd H s.heap.objs.size (.tup [.int (i : Nat), x])) h'' s.heap.objs.size (.tup [.int (i : Nat), x]) :=
      ⟨by show 2 ≤ sizeLine; decide, [.int i tk, y], .cons ⟨_, rfl⟩ (.cons ru .nil), ⟨_, hT2, rfl, _, rfl⟩⟩
    have I1 : Inv X pins σ (upd H s.heap.objs.size (.tup [.int (i : Nat), x])) { s with heap := h'', toks := tk + 1 } :=
      I.turnedNew (ch := [e, it]) (fun b ob hb q => (sb.2 b (fun z => hb (by simp [z]))).trans (hk b ob (fun z => hb (by simp [z])) (fun z => hb (by simp [z])) q)) hf (Nat.le_refl _) new
    refine ⟨.ref s.heap.objs.size, _, I1, rfl, ⟨_, x, rfl, I.hok.fresh (Nat.le_refl _), rfl, fun ys hy => by rw [I.tuple_inj hy hq]; exact hx⟩, ⟨⟨y, ?_⟩, hst'.1.at fun o q => (sb.2 it (Ne.symm hne)).trans q, hne⟩, fun b hb => ?_⟩
    · rw [show ((i + 1 : Nat) : Int) = (i : Int) + 1 by omega]; exact he'
    · have e' : b = e ∨ b = it := by simpa using hb
      have hb' : b < s.heap.objs.size := by rcases e' with rfl | rfl <;> assumption
      rw [upd_ne (Nat.ne_of_lt hb')]
      exact (hf b hb).1
  done := by
    intro X hP hw hK hc i pins s σ H E I hf st hg
    subst hP hw hK
    obtain ⟨⟨old, he⟩, hit, hne⟩ := st
    obtain ⟨xs, hq, hx⟩ := hg
    obtain ⟨its, rv, p, hz⟩ := I.tuple hq
    obtain ⟨f0, f1, f2, f3, f4, f5⟩ := hf it (by simp)
    have hl := rv.length
    exact enT_end (I.ok.hd hc) he hit p (by simp; omega) fun h' eb => ⟨rfl, I.turned (t' := s.toks) (fun b o hb q => eb b o hb q) f0 f1 f3 f4 f5⟩
  self := fun A i s Q E st h => let ⟨⟨_, he⟩, _⟩ := st; wpAny_pyIter_enum he h
def iEnumA (K : PySem.W.Frag) (ta : TA) : TI := fun σ H R => ta σ H fun vs H1 => ∃ a xs, vs = [.ref a] ∧ ((SqL K H1 a xs ∧ R (Ite K a) H1) ∨ (SqT K H1 a xs ∧ R (IteT K a) H1))
theorem pi_enumA {X : Cx} {e : Expr} {ta : TA} {p pos tpos : Pos} {elts : List Expr} {kk : Nat} (hg : Gl X "enumerate") (hm : X.mg "enumerate" = none) (ha : PA X [e] ta) (hs : starEach [e] X.env = [(false, eval e X.env)] := by rfl) :
    PI X (.Tuple elts kk tpos) (.Call (.Name "enumerate" p) [e] [] pos) (iEnumA X.K ta) := by
  refine ⟨fun pins s σ H R I h => ?_⟩
  refine PyProof.Rows.Call_ (ld_blt I hg hm PyProof.Rows.boot_enumerate (PyProof.Rows.callWith_type1 (thn (ha.run pos pins s σ H _ I h) fun us s1 ⟨vs, H1, I1, r1, a, xs, ev, q⟩ => ?_) hs rfl))
  subst ev
  obtain ⟨u, rfl, ru⟩ : ∃ u, us = [u] ∧ RelV (.ref a) u := by
    cases r1 with
    | cons r rr => cases rr; exact ⟨_, rfl, r⟩
  cases ru
  have fpn : ∀ {h' : Heap}, (∀ b u, s1.heap.get? b = some u → h'.get? b = some u) → ∀ b ∈ [s1.heap.objs.size + 1, s1.heap.objs.size], FpOk X pins H1 b := fun hk b hb => by
    have hle : s1.heap.objs.size ≤ b := by
      rcases List.mem_cons.mp hb with rfl | hb
      · exact Nat.le_add_right _ _
      · rw [List.mem_singleton.mp hb]; exact Nat.le_refl _
    exact I1.fpOk hle (I1.hok.fresh hle)
  rcases q with ⟨hq, q⟩ | ⟨hq, q⟩
  · obtain ⟨its, rv, pl, hz⟩ := I1.list hq
    refine en1_call (begins_list a its.toArray) pl.isList fun h' he hit hk => wpAny_pyIter_enum he ?_
    have I2 : Inv X pins σ H1 { s1 with heap := h' } := I1.kept (t' := s1.toks) hk
    exact ⟨s1.heap.objs.size + 1, [s1.heap.objs.size + 1, s1.heap.objs.size], _, _, H1, rfl, I2, turn_enum a (s1.heap.objs.size + 1) s1.heap.objs.size, ⟨⟨.none, he⟩, ⟨_, hit, rfl, rfl⟩, Nat.succ_ne_self _⟩, fpn hk, q⟩
  · obtain ⟨its, rv, pl, hz⟩ := I1.tuple hq
    refine en1_call (begins_tuple a its.toArray) pl fun h' he hit hk => wpAny_pyIter_enum he ?_
    have I2 : Inv X pins σ H1 { s1 with heap := h' } := I1.kept (t' := s1.toks) hk
    exact ⟨s1.heap.objs.size + 1, [s1.heap.objs.size + 1, s1.heap.objs.size], _, _, H1, rfl, I2, turn_enT a (s1.heap.objs.size + 1) s1.heap.objs.size, ⟨⟨.none, he⟩, ⟨_, hit, rfl, rfl⟩, Nat.succ_ne_self _⟩, fpn hk, q⟩
section
variable {ca : Cn} {X : Cx} {W : WF} {pos : Pos} {e a b c : Expr}
/-- enumerate(list or tuple) -/
def iEnA (xs : EA) : EI := fun τ h => (xs τ h).bind fun ds h1 => match ds with
  | [.lst ds] => .ok (enD ds, none) h1
  | [.tup ds] => .ok (enD ds, none) h1
  | [.ref n] => match h1[n]? with
    | some (.lst ds) => .ok (enD ds, some (n, .lst ds)) h1
    | _ => .stuck
  | _ => .stuck
theorem iteT_ok {K : PySem.W.Frag} {ds : List D} {kp : Kp} {a : Addr} {vs : List V} {μ : List Addr} {F H : Hp} {h : Own} (q : F a = some (.tup vs)) (r : VRs ca μ F vs ds) : ItOk ca (enD ds) kp (IteT K a) μ F H h := by
  intro b μ2 F2 h2 H2 E R hk i
  have q2 : H2 a = some (.tup vs) := R.fz _ _ (E.fz _ _ q)
  have r2 := E.vrs r
  have hl := r.length
  rw [enD_len]
  refine ⟨fun hi => ⟨⟨vs, vs[i]'(by omega), SqT.of q2, by rw [List.getElem?_eq_getElem]⟩, fun x H3 y => ?_⟩, fun hi => ⟨vs, SqT.of q2, by omega⟩⟩
  obtain ⟨T, x0, rfl, hT, rfl, y⟩ := y
  obtain ⟨d, e1, e2⟩ := r2.getV (y vs (SqT.of q2))
  obtain ⟨_, R3⟩ := fzNew (b := 0) R hT (.tup [.int (i : Nat), x0])
  exact ⟨_, _, enD_get e1, fun b => (fzNew R hT _).1, R3, .tup upd_same (.cons (.int _) (.cons ((fzNew (b := 0) R hT _).1.vr e2) .nil))⟩
theorem si_enA {tg : Expr} {xs : EA} (h : PI X tg e (iEnumA X.K (rdA ca W xs))) : SI ca X W tg e (iEnA xs) := PI.imp h fun σ H R ⟨μ, F, τ, h, A, p⟩ => ⟨μ, F, τ, h, A, p.bind.imp fun ds μ1 F1 H1 h1 E1 R1 q vs Vs => by
  split at q
  · obtain ⟨v, rfl, Vr⟩ := Vs.one
    cases Vr with
    | @lst a vs ds qt r => exact ⟨a, vs, rfl, .inl ⟨SqL.of (R1.fz _ _ qt), q.ok R1 (fun n o z => by cases z) _ (ite_ok fun b μ2 F2 h2 H2 E R hk => ⟨vs, R.fz _ _ (E.fz _ _ qt), E.vrs r⟩)⟩⟩
  · obtain ⟨v, rfl, Vr⟩ := Vs.one
    cases Vr with
    | @tup a vs ds qt r => exact ⟨a, vs, rfl, .inr ⟨SqT.of (R1.fz _ _ qt), q.ok R1 (fun n o z => by cases z) _ (iteT_ok qt r)⟩⟩
  · rename_i n
    obtain ⟨v, rfl, Vr⟩ := Vs.one
    cases Vr with
    | @ref a n en =>
      split at q
      · rename_i ds e0
        obtain ⟨vs, q1, r1⟩ := R1.ob n _ _ en e0
        exact ⟨a, vs, rfl, .inl ⟨SqL.of q1, q.ok R1 (fun m o z => by cases z; exact e0) _ (ite_ok fun b μ2 F2 h2 H2 E R hk => R.ob n a _ (E.ix n a en) (hk n _ rfl))⟩⟩
      · exact q.elim
  · exact q.elim⟩
end
end Z
set_option Elab.async false
set_option linter.all false
set_option maxRecDepth 100000
/-! Z21: sorted(set(ints)). -/
namespace Z
open PySem PySem.Spec L2 PyProof.Rows
/-- a set as it is made -/
abbrev newSet (w : World) : Obj := { cls := .type "set", dict := none, data := .set #[] 0 (.fresh 0 0 (!w.params.followText "set-order")) }
section
variable {P : Program} {w : World} {A : Around} {E : Value → Shared → Prop} {s : Shared}
set_option maxHeartbeats 3200000 in
theorem set_listI {l : Addr} {items : Array Value} (ns : List Int) {Q : Value → Shared → Prop} (hh : A.handled = none) (hl : s.heap.IsList l items) (hit : IntsAre items.toList ns) (hb : ns.length + 1 < scanBound)
    (h : ∀ (h' : Heap) (tk c : Nat), SetR w h' s.heap.objs.size (fun j => decide (j ∈ ns)) c → c ≤ ns.length → (∀ b o, s.heap.get? b = some o → h'.get? b = some o) → Q (.ref s.heap.objs.size) { s with heap := h', toks := tk }) :
    wpAny (model P w) A (call (.type "set") [.ref l]) Q E s := by
  have hisz : items.size = ns.length := by rw [← Array.length_toList]; exact IntsAre.length hit
  obtain ⟨c, tl, hmro⟩ := F.called_set.mro
  have hmade := F.called_set.made
  have hsub := F.called_set.sub
  refine wpAny_call (codeAny_of_tree ?_)
  show wpAny _ _ (callAny (.type "set") _) _ _ _
  refine wpAny_pure ⟨Code.quiet_builtin _ (by decide +kernel), codeAny_builtin F.entry_type_call ?_⟩
  rw [Around.under_plain (weight_type_call_type "set" [.ref l] []) rfl]
  have h1 := F.called_set.notType
  have h2 := F.called_set.canCreate
  have hct := F.typeCall_set_1 (.ref l)
  repeat (any_goals (first | assumption | wp_step))
  refine codeAny_mono (code_set_led1 (.ref l) (E := E) (Q₁ := fun obj s₁ => obj = .ref s.heap.objs.size ∧ s₁ = { s with heap := s.heap.push (newSet w) }) ⟨rfl, rfl⟩) fun r s₁ hr => ?_
  match r, hr with
  | .error e, hr => exact hr
  | .ok .next, hr => exact hr.elim
  | .ok .brk, hr => exact hr.elim
  | .ok .cont, hr => exact hr.elim
  | .ok (.ret obj), hr =>
    obtain ⟨rfl, rfl⟩ := hr
    have hS : (s.heap.push (newSet w)).get? s.heap.objs.size = some (newSet w) := Heap.get?_push_size _ rfl
    have hT : Shared.TypeIs { s with heap := s.heap.push (newSet w) } (.ref s.heap.objs.size) "set" := ⟨_, hS, rfl⟩
    have hli := F.called_set.init.lookup
    have hbi := F.called_set.init.bind (.ref s.heap.objs.size)
    repeat (any_goals (first | assumption | wp_step))
    refine codeAny_mono (codeAny_call_builtin (R := wants (fun r s₂ => r = .none ∧ ∃ h' tk c, s₂ = { s with heap := h', toks := tk } ∧ SetR w h' s.heap.objs.size (fun j => decide (j ∈ ns)) c ∧ c ≤ ns.length ∧
        (∀ b o, s.heap.get? b = some o → h'.get? b = some o)) E) F.called_set.init.plain F.entry_set_init (check_set_init_1 hT ?_)) fun r₂ s₂ hr₂ => ?_
    · obtain ⟨⟨ocls, odict, odata, oslots⟩, hol, hcl, nl, hdl⟩ := hl
      simp only at hcl hdl
      subst hcl hdl
      have hol' : (s.heap.push (newSet w)).get? l = some { cls := .type "list", dict := odict, data := .seq items nl, slots := oslots } := Heap.get?_push_of_some _ hol
      have hl1 : (s.heap.push (newSet w)).IsList l items := ⟨_, hol', rfl, nl, rfl⟩
      have hsls := F.sub_list_set
      have hslf := F.sub_list_frozenset
      have hne : (Value.type "list" == Value.type "dict") = false := by decide
      unfold Builtin.«set.__init__» noKeywords Builtin.Frozenset.updateFrom
      generalize hPI : pyIter = PI
      wp_walk
      subst hPI
      refine wpAny_pyIter_list hl1 (wpAny_bind (wpAny_runValue ?_))
      have hlS : l < s.heap.objs.size := Heap.lt_size hol
      have hz1 : (s.heap.push (newSet w)).objs.size = s.heap.objs.size + 1 := Heap.size_push ..
      have hneI : l ≠ (s.heap.push (newSet w)).objs.size := by rw [hz1]; exact Nat.ne_of_lt (Nat.lt_succ_of_lt hlS)
      have hSf : s.heap.objs.size ∉ [(s.heap.push (newSet w)).objs.size, l] := by
        rw [hz1]
        intro z
        rcases List.mem_cons.mp z with z | z
        · exact absurd z (Nat.ne_of_lt (Nat.lt_succ_self _))
        · rw [List.mem_singleton] at z
          exact absurd z (Nat.ne_of_gt hlS)
      have hval : ∀ (i : Nat) (v : Value), items[i]? = some v → ∃ k t, ns[i]? = some k ∧ v = .int k t := fun i v hv => by
        have hi : i < ns.length := by rw [← hisz]; exact (Array.getElem?_eq_some_iff.mp hv).1
        obtain ⟨t, e⟩ := PyProof.Rows.IntsAre.int_at hit i v (by rw [Array.getElem?_toList]; exact hv)
        exact ⟨ns[i], t, List.getElem?_eq_getElem hi, by rw [e, List.getD_eq_getElem?_getD, List.getElem?_eq_getElem hi] <;> rfl⟩
      refine set_update_ints ((Walks.list (show A.in1.in1.in1.handled = none by simp [hh]) _ l hneI items).toS) s.heap.objs.size
        hSf ns hisz hb hval (items.size - 0) 0 _ (by omega) (Nat.zero_le _) ⟨⟨_, Heap.get?_push_size _ rfl, rfl, rfl⟩, (hl1.push _)⟩ ⟨0, Nat.le_refl 0, setR_new_at (Heap.get?_push_of_some _ hS)⟩ ?_
      rintro ⟨h', g2, d', tk', os'⟩ c' hm hc' hS'
      have eg : g2 = s.gens := hm.gens
      have ed : d' = s.drawn := hm.drawn
      have eo : os' = s.os := hm.os
      subst eg ed eo
      show wpAny _ _ _ _ _ _
      refine wpAny_pure ?_
      show wpAny _ _ (ret Value.none) _ _ _
      rw [hisz] at hc'
      refine wpAny_pure ⟨rfl, h', tk', c', rfl, hS', hc', fun b o e => ?_⟩
      have hb0 : b < s.heap.objs.size := Heap.lt_size e
      refine hm.heap b o (fun z => ?_) (Heap.get?_push_of_some _ (Heap.get?_push_of_some _ e))
      rw [hz1] at z
      rcases List.mem_cons.mp z with z | z
      · exact Nat.ne_of_lt hb0 z
      · exact Nat.ne_of_lt (Nat.lt_succ_of_lt hb0) (List.mem_singleton.mp z)
    · match r₂, hr₂ with
      | .error e, hr₂ => exact hr₂
      | .ok .next, hr₂ => exact hr₂.elim
      | .ok .brk, hr₂ => exact hr₂.elim
      | .ok .cont, hr₂ => exact hr₂.elim
      | .ok (.ret r), hr₂ =>
        obtain ⟨rfl, h', tk, c', rfl, hS', hc', hk'⟩ := hr₂
        repeat (any_goals (first | assumption | wp_step))
        exact h _ _ _ hS' hc' hk'
end
def rSetI (K : PySem.W.Frag) (w : World) : List V → Hp → VK → Prop := fun xs H Q => ∃ (l : Addr) (ns : List Int), xs = [.ref l] ∧ (SqL K H l (ns.map V.int) ∨ SqT K H l (ns.map V.int)) ∧ ns.length < 1000 ∧
  ∀ (p : Addr) (c : Nat), c ≤ ns.length → H p = none → Q (.ref p) (upd H p (SetO w p (fun j => decide (j ∈ ns)) c))
theorem intsAre_of {ns : List Int} : ∀ {us : List Value}, Vals (ns.map V.int) us → IntsAre us ns := by
  induction ns with
  | nil => intro us r; cases r; exact .nil
  | cons n ns ih =>
    intro us r
    rw [List.map_cons] at r
    cases r with
    | cons ru rr =>
      obtain ⟨t, rfl⟩ := ru
      exact .cons _ _ (ih rr)
theorem cr_setI {X : Cx} (hc : X.calm = true) : CallR X (.type "set") (rSetI X.K X.w) := by
  intro pins s σ H vs us Q I r h
  obtain ⟨l, ns, rfl, hq, hlen, q⟩ := h
  rw [Vals.ref1 r]
  have done : ∀ (h' : Heap) (tk c : Nat), SetR X.w h' s.heap.objs.size (fun j => decide (j ∈ ns)) c → c ≤ ns.length → (∀ b o, s.heap.get? b = some o → h'.get? b = some o) → EP X pins σ Q (.ref s.heap.objs.size) { s with heap := h', toks := tk } := fun h' tk c R hcl k =>
    ⟨.ref _, upd H s.heap.objs.size (SetO X.w s.heap.objs.size (fun j => decide (j ∈ ns)) c), I.laid (t' := tk) k (Nat.le_refl _) (setO_new R), rfl, q _ c hcl (I.hok.fresh (Nat.le_refl _))⟩
  have hb : ns.length + 1 < scanBound := Nat.lt_of_lt_of_le (show ns.length + 1 < 1001 by omega) (by decide)
  rcases hq with hq | hq
  · obtain ⟨its, rv, pl, hz⟩ := I.list hq
    exact set_listI ns (I.ok.hd hc) pl.isList (by simpa using intsAre_of rv) hb done
  · obtain ⟨its, rv, pl, hz⟩ := I.tuple hq
    exact call_set_tupI ns (I.ok.hd hc) pl (by simpa using intsAre_of rv) hb done
/-- the different ones, rising -/
def ins1 (n : Int) : List Int → List Int
  | [] => [n]
  | m :: ms => if n < m then n :: m :: ms else if n = m then m :: ms else m :: ins1 n ms
def sset (ns : List Int) : List Int := ns.foldr ins1 []
theorem mem_ins1 {n k : Int} : ∀ {ms : List Int}, k ∈ ins1 n ms ↔ k = n ∨ k ∈ ms
  | [] => by simp [ins1]
  | m :: ms => by
    unfold ins1
    split
    · simp
    · split
      · rename_i h1 h2
        subst h2
        simp
      · simp only [List.mem_cons, mem_ins1 (ms := ms)]
        constructor <;> intro h <;> (rcases h with h | h | h <;> simp [h])
theorem ins1_sorted {n : Int} : ∀ {ms : List Int}, ms.Pairwise (· < ·) → (ins1 n ms).Pairwise (· < ·)
  | [], _ => by simp [ins1]
  | m :: ms, h => by
    obtain ⟨h1, h2⟩ := List.pairwise_cons.mp h
    unfold ins1
    split
    · rename_i hn
      refine List.pairwise_cons.mpr ⟨fun y hy => ?_, h⟩
      rcases List.mem_cons.mp hy with rfl | hy
      · exact hn
      · exact Int.lt_trans hn (h1 y hy)
    · split
      · exact h
      · rename_i g1 g2
        refine List.pairwise_cons.mpr ⟨fun y hy => ?_, ins1_sorted h2⟩
        rcases mem_ins1.mp hy with rfl | hy
        · omega
        · exact h1 y hy
theorem mem_sset {k : Int} {ns : List Int} : k ∈ sset ns ↔ k ∈ ns := by
  induction ns with
  | nil => simp [sset]
  | cons n ns ih =>
    show k ∈ ins1 n (sset ns) ↔ _
    rw [mem_ins1, ih, List.mem_cons]
theorem sset_sorted (ns : List Int) : (sset ns).Pairwise (· < ·) := by
  induction ns with
  | nil => simp [sset]
  | cons n ns ih => exact ins1_sorted ih
theorem asc_uniq : ∀ {as bs : List Int}, as.Pairwise (· < ·) → bs.Pairwise (· < ·) → (∀ k, k ∈ as ↔ k ∈ bs) → as = bs
  | [], [], _, _, _ => rfl
  | [], b :: bs, _, _, h => by have := (h b).mpr List.mem_cons_self; cases this
  | a :: as, [], _, _, h => by have := (h a).mp List.mem_cons_self; cases this
  | a :: as, b :: bs, ha, hb, h => by
    obtain ⟨a1, a2⟩ := List.pairwise_cons.mp ha
    obtain ⟨b1, b2⟩ := List.pairwise_cons.mp hb
    have e : a = b := by
      rcases List.mem_cons.mp ((h a).mp List.mem_cons_self) with z | z
      · exact z
      · rcases List.mem_cons.mp ((h b).mpr List.mem_cons_self) with y | y
        · exact y.symm
        · have := b1 a z
          have := a1 b y
          omega
    subst e
    congr 1
    refine asc_uniq a2 b2 fun k => ⟨fun hk => ?_, fun hk => ?_⟩
    · rcases List.mem_cons.mp ((h k).mp (List.mem_cons_of_mem _ hk)) with rfl | z
      · have := a1 k hk; omega
      · exact z
    · rcases List.mem_cons.mp ((h k).mpr (List.mem_cons_of_mem _ hk)) with rfl | z
      · have := b1 k hk; omega
      · exact z
section
variable {ca : Cn} {X : Cx} {W : WF} {pos : Pos} {e a b c : Expr}
/-- sorted(set(x)) -/
def fSSet : FA := fun xs h => match xs with
  | [d] => match asQ h d with
    | some ds => match asI ds with
      | some ns => if ns.length < 64 then .ok (.n (.lst ((sset ns).map .int))) h else .stuck
      | none => .stuck
    | none => .stuck
  | _ => .stuck
def rSSet (K : PySem.W.Frag) (w : World) : List V → Hp → VK → Prop := fun xs H Q => rSetI K w xs H fun u H2 => rSortedSet w [u] H2 Q
theorem lk_sset {K : PySem.W.Frag} {w : World} : LkA ca fSSet (rSSet K w) := fun b μ F H h Wx vs ds Q R Vs _ p => by
  unfold fSSet at p
  split at p
  · obtain ⟨v, rfl, Vr⟩ := Vs.one
    split at p
    · rename_i ds e1
      obtain ⟨a, vs, rfl, q, r⟩ := asQ_ok R Vr e1
      split at p
      · rename_i ns e2
        obtain rfl := asI_eq e2
        obtain rfl := r.ints
        by_cases hl : ns.length < 64
        · rw [if_pos hl] at p
          refine ⟨a, ns, rfl, SqQ q, by omega, fun p0 c hc hp0 => ⟨p0, _, c, rfl, upd_same, by omega, fun ms p1 hs hm _ hp1 => ?_⟩⟩
          have e : ms = sset ns := asc_uniq hs (sset_sorted ns) fun k => by rw [hm k, mem_sset]; simp
          subst e
          have E0 : Ext b μ F H h μ F (upd H p0 (SetO w p0 (fun j => decide (j ∈ ns)) c)) h := Ext.refl.upd hp0
          have R0 : RelH ca μ F h (upd H p0 (SetO w p0 (fun j => decide (j ∈ ns)) c)) := R.upd hp0
          obtain ⟨e1, R1, w1⟩ := neNew (b := b) R0 hp1 (.lst ((sset ns).map V.int)) (o := .lst ((sset ns).map .int)) fun H' q => ⟨_, q, VRs.of_ints _⟩
          exact p _ _ _ (E0.trans e1) R1 _ (RR.back E0 w1)
        · rw [if_neg hl] at p; exact p.elim
      · exact p.elim
    · exact p.elim
  · exact p.elim
theorem se_sset {xs : EA} {p p2 pos2 : Pos} (hc : X.calm = true) (hg : Gl X "sorted") (hm : X.mg "sorted" = none) (hv : bootBuiltins "sorted" = some (.builtin "sorted")) (hg2 : Gl X "set") (hm2 : X.mg "set" = none) (hv2 : bootBuiltins "set" = some (.type "set"))
    (h : SA ca X W [e] xs) (hs : starEach [e] X.env = (false, eval e X.env) :: starEach [] X.env) (hpl : (backTo pos2 (starEach [] X.env)).any (·.1) = false)
    (hs2 : starEach [Expr.Call (.Name "set" p2) [e] [] pos2] X.env = (false, eval (Expr.Call (.Name "set" p2) [e] [] pos2) X.env) :: starEach [] X.env) (hpl2 : (backTo pos (starEach [] X.env)).any (·.1) = false) :
    SE ca X W (.Call (.Name "sorted" p) [.Call (.Name "set" p2) [e] [] pos2] [] pos) (eA fSSet xs) := by
  have key : PE X (.Call (.Name "sorted" p) [.Call (.Name "set" p2) [e] [] pos2] [] pos) (tCB (rSSet X.K X.w) (rdA ca W xs)) :=
    PE.imp (pe_callB (cr_sortedSet hc) hg hm hv (pa_cons (pe_callTy (cr_setI hc) hg2 hm2 hv2 h (by decide) (by decide) hs hpl) pa_nil hs2) (by decide) (by decide) hs2 hpl2) fun σ H Q q => q
  exact se_b key lk_sset
end
end Z
set_option Elab.async false
set_option linter.all false
set_option maxRecDepth 100000
/-! Z22: {t: v} with a tuple as the key; d.update of a dict comprehension. -/
namespace Z
open PySem PySem.Spec L2
/-- d[t] = v by a display -/
theorem d_dictSetT {X : Cx} {pins : List (Addr × Obj)} {σ : St} {H : Hp} {s : Shared} {E : Value → Shared → Prop} {p b : Addr} {kvs : List (List Key × V)} {k : List Key} {v : V} {r : Value} {Q : Unit → Shared → Prop} (hu : X.A.units + 1 < cLine) (I : Inv X pins σ H s) (hp : H p = some (.dT kvs)) (hz : kvs.length < sizeLine)
    (hb : H b = some (.tup (k.map kV))) (rv : RelV v r) (h : ∀ s', Inv X pins σ (upd H p (.dT (putK kvs k v))) s' → Q () s') : wpAny (model X.prog X.w) X.A (dictSet p (.ref b) r) Q E s := by
  obtain ⟨z, hd, xs, rel, dd⟩ := dt_of I.hok hp
  have hzv : xs.length ≤ sizeLine := by rw [← Paired.length rel]; exact z
  have hl : (putK kvs k v).length ≤ sizeLine := by have := length_putK kvs k v; omega
  refine wpAny_dictSet_heap (hsz := hzv) (Nat.lt_trans (Nat.lt_succ_self _) hu) (key_of I.hok hb) dd fun h' dd' hs => h _ ?_
  obtain ⟨q, es, ep, hq, g2, g3, g4, _, g5⟩ := dd'
  refine d_write I (by rw [hp]; exact True.intro) hs ⟨q, hq⟩ ⟨hl, hd, _, (rel.put k hb rv).keeps fun c ys ec => ?_, q, es, ep, hq, g2, g3, g4, g5⟩
  rw [upd_ne (ne_of ec hp (fun z => nomatch z))]
  exact ec
def tDisp1 (tk tv : TE) : TE := fun σ H Q => ∀ p, H p = none → tk σ (upd H p (.dT [])) fun x H1 => tv σ H1 fun y H2 => ∃ b ks, x = .ref b ∧ H2 b = some (.tup (ks.map kV)) ∧ H2 p = some (.dT []) ∧ Q (.ref p) (upd H2 p (.dT [(ks, y)]))
theorem pe_disp1 {X : Cx} {pos : Pos} {k v : Expr} {tk tv : TE} (hu : X.A.units + 1 < cLine) (hk : PE X k tk) (hv : PE X v tv) : PE X (.Dict [some k] [v] pos) (tDisp1 tk tv) := by
  refine ⟨fun pins s σ H Q I q => ?_⟩
  have hn := I.hok.fresh (Nat.le_refl s.heap.objs.size)
  have I1 := I.laid (a := s.heap.objs.size) (o := .dT []) (h' := s.heap.push { cls := .type "dict", data := .dict #[] }) (t' := s.toks) (fun _ _ q => Heap.get?_push_of_some _ q) (Nat.le_refl _) (dt_empty s.heap I.big)
  have P1 : PPs X pos [some k] [v] [(tk, tv)] := pps_cons hk hv pps_nil
  refine wpAny_Dict_any rfl rfl (by simp) (show 1 ≤ 15 by decide) (thn (P1.run pins _ σ _ (fun ps H2 => match ps with
    | [(x, y)] => ∃ b ks, x = .ref b ∧ H2 b = some (.tup (ks.map kV)) ∧ H2 s.heap.objs.size = some (.dT []) ∧ Q (.ref s.heap.objs.size) (upd H2 s.heap.objs.size (.dT [(ks, y)]))
    | _ => False) I1 (q _ hn)) fun ws s2 ⟨ps, H2, I2, rel, q1⟩ => ?_)
  match ps, rel, q1 with
  | [(x, y)], rel, ⟨b, ks, ex, hb, hp, q2⟩ =>
    obtain ⟨u, r, rfl, ru, rr⟩ : ∃ u r, ws = [(u, r)] ∧ RelV x u ∧ RelV y r := by
      cases rel with
      | cons h t => cases t; exact ⟨_, _, rfl, h.1, h.2⟩
    subst ex
    cases ru
    show wpAny _ _ (forIn [(Value.ref b, r)] PUnit.unit _) _ _ _
    rw [List.forIn_cons]
    refine wpAny_bind (wpAny_bind (d_dictSetT hu I2 hp (by decide) hb rr fun s3 I3 => wpAny_pure ?_))
    dsimp only
    rw [List.forIn_nil]
    exact wpAny_pure ⟨.ref _, _, I3, rfl, q2⟩
section
variable {ca : Cn} {X : Cx} {W : WF} {pos : Pos} {e a b c : Expr}
/-- {k: v}, k a tuple -/
def eDisp1 (k v : ED) : EX := fun τ h => (k τ h).bind fun x h1 => (v τ h1).bind fun y h2 => match asKs x with
  | some ks => .ok (.n (.dT [(ks, y)])) h2
  | none => .stuck
theorem se_disp1 {k v : Expr} {xk xv : ED} (hu : X.A.units + 1 < cLine) (hk : SD ca X W k xk) (hv : SD ca X W v xv) : SE ca X W (.Dict [some k] [v] pos) (eDisp1 xk xv) := PE.imp (pe_disp1 hu hk hv) fun σ H Q ⟨μ, F, τ, h, A, p⟩ l hl => by
  have hF : F l = none := by
    cases q : F l with
    | none => rfl
    | some w => exact absurd (A.rel.fz _ _ q) (by rw [hl]; exact fun z => nomatch z)
  have hm : l ∉ μ := fun z => A.rel.dom l z hl
  have A1 : At ca μ F τ h σ (upd H l (.dT [])) := ⟨A.rel.upd hl, A.sl, A.bl⟩
  have E0 : Ext τ.b μ F H h μ F (upd H l (.dT [])) h := Ext.refl.upd hl
  unfold eDisp1 at p
  refine ⟨μ, F, τ, h, A1, ?_⟩
  cases hx : xk τ h with
  | stuck => rw [hx] at p; exact p.elim
  | exc c h1 => rw [hx] at p; exact fun μ1 F1 H1 E1 R1 => p μ1 F1 H1 (E0.trans E1) R1
  | ok x h1 =>
    rw [hx] at p
    intro μ1 F1 H1 E1 R1 vx Vx
    have A2 := A1.ext E1 R1
    refine ⟨μ1, F1, τ, h1, A2, ?_⟩
    dsimp only [Res.bind] at p
    cases hy : xv τ h1 with
    | stuck => rw [hy] at p; exact p.elim
    | exc c h2 => rw [hy] at p; exact fun μ2 F2 H2 E2 R2 => p μ2 F2 H2 (E0.trans (E1.trans E2)) R2
    | ok y h2 =>
      rw [hy] at p
      intro μ2 F2 H2 E2 R2 vy Vy
      have E12 := E1.trans E2
      dsimp only at p
      cases ek : asKs x with
      | none => rw [ek] at p; exact p.elim
      | some ks =>
        rw [ek] at p
        obtain ⟨b, eb, hb⟩ := asKs_ok R2.fz (E2.vr Vx) ek
        have hlD : H2 l = some (.dT []) := E12.frame l _ upd_same hm
        have hm1 : l ∉ μ2 := fun z => by
          obtain ⟨m, e1, e2⟩ := E12.pre
          rw [e1] at z
          rcases List.mem_append.mp z with z | z
          · exact hm z
          · exact absurd (e2 l z) (by rw [upd_same]; exact fun z => nomatch z)
        have hF1 : F2 l = none := by
          cases q : F2 l with
          | none => rfl
          | some w =>
            rcases E12.newF l (by rw [q]; simp) with z | z | z | ⟨_, z⟩
            · exact absurd hF z
            · exact absurd z hm
            · rw [upd_same] at z; cases z
            · rw [upd_same] at z; cases z
        exact ⟨b, ks, eb, hb, hlD, p μ2 F2 _ ((E0.trans E12).updFree hl) (R2.updFree hm1 hF1) _ ⟨l, rfl, hl, by rw [upd_same]; simp, hm1, hF1, _, upd_same, rfl, .cons Vy .nil⟩⟩
end
end Z
set_option Elab.async false
set_option linter.all false
set_option maxRecDepth 100000
/-! Z23: {k: v for .. if ..}; d.update(d2). -/
namespace Z
open PySem PySem.Spec L2
section
variable {ca : Cn} {X : Cx} {W : WF} {pos : Pos} {e a b c : Expr} {vs : List Nat}
open Classical in
noncomputable def dcGo (kp : Kp) (g : ET) (t : EB) (kx vx : ED) (b : Nat) (s : Sl) : List D → Own → List (Key × D) → Res R
  | [], h, acc => if kpOk kp h then .ok (.n (.dK acc)) h else .stuck
  | d :: ds, h, acc => if kpOk kp h then
      match g d ⟨b, s⟩ h with
      | .next s1 h1 => match t ⟨b, s1⟩ h1 with
        | .ok true h2 => match kx ⟨b, s1⟩ h2 with
          | .ok y h3 => match vx ⟨b, s1⟩ h3 with
            | .ok z h4 => match asK y with
              | some k => if acc.length < sizeLine then dcGo kp g t kx vx b s ds h4 (putD acc k z) else .stuck
              | none => .stuck
            | _ => .stuck
          | _ => .stuck
        | .ok false h2 => dcGo kp g t kx vx b s ds h2 acc
        | _ => .stuck
      | _ => .stuck
    else .stuck
noncomputable def eDC (it : EI) (g : ET) (t : EB) (kx vx : ED) (vs : List Nat) : EX := fun τ h => (it τ h).bind fun p h1 => dcGo p.2 g t kx vx τ.b (Z.clr vs τ.s) p.1 h1 []
theorem dc_rd {wi : TI} {it : EI} {g : ET} {t : EB} {kx vx : ED} {σ : L2.St} {H : Hp} {Q : VK} (h : rdE ca W (eDC it g t kx vx vs) σ H Q) : tDc (rdI ca W it) (rdGw ca vs g) (rdB ca W0 t) (rdD ca W0 kx) (rdD ca W0 vx) vs σ H Q := by
  obtain ⟨μ, F, τ, h, A, p⟩ := h
  refine ⟨μ, F, τ, h, A, ?_⟩
  unfold eDC at p
  cases hit : it τ h with
  | stuck => rw [hit] at p; exact p
  | exc c h1 => rw [hit] at p; exact p
  | ok pr h1 =>
    rw [hit] at p
    obtain ⟨ds, kp⟩ := pr
    intro μ1 F1 H1 E1 R1 hk J ok D hD
    have hk : kpOk kp h1 := hk
    have ok : ItOk ca ds kp J μ1 F1 H1 h1 := ok
    have p : PostG ca τ.b μ F H h (dcGo kp g t kx vx τ.b (Z.clr vs τ.s) ds h1 []) (wx ca W σ) fun r μ1 F1 H1 _ => ∀ v, RR ca μ1 F1 H H1 v r → Q v H1 := p
    have hD0 : H D = none := E1.fresh hD
    have dF : F1 D = none := by
      cases q : F1 D with
      | none => rfl
      | some w => have := R1.fz _ _ q; rw [hD] at this; cases this
    have dM : D ∉ μ1 := fun z => R1.dom D z hD
    refine ⟨fun i m H2 => m = ds.length - i ∧ i ≤ ds.length ∧ ∃ μ2 F2 h2 ws acc, Ext τ.b μ F H h μ2 F2 H2 h2 ∧ Ext τ.b μ1 F1 H1 h1 μ2 F2 H2 h2 ∧ RelH ca μ2 F2 h2 H2 ∧ H2 D = some (.dK ws) ∧ ws.map (·.1) = acc.map (·.1) ∧ VRs ca μ2 F2 (ws.map (·.2)) (acc.map (·.2)) ∧ D ∉ μ2 ∧ F2 D = none ∧
      PostG ca τ.b μ F H h (dcGo kp g t kx vx τ.b (Z.clr vs τ.s) (ds.drop i) h2 acc) (wx ca W σ) fun r μ1 F1 H1 _ => ∀ v, RR ca μ1 F1 H H1 v r → Q v H1,
      ⟨ds.length, rfl, Nat.zero_le _, μ1, F1, h1, [], [], E1.upd hD, Ext.refl.upd hD, R1.upd hD, upd_same, rfl, .nil, dM, dF, p⟩, ?_⟩
    rintro i m H2 ⟨rfl, hi, μ2, F2, h2, ws, acc, E2, Eg, R2, q2, K2, V2, nM, nF, w⟩
    have hkp : kpOk kp h2 := by
      cases hd : ds.drop i with
      | nil =>
        rw [hd, dcGo] at w
        by_cases z : kpOk kp h2
        · exact z
        · rw [if_neg z] at w; exact w.elim
      | cons d r =>
        rw [hd, dcGo] at w
        by_cases z : kpOk kp h2
        · exact z
        · rw [if_neg z] at w; exact w.elim
    obtain ⟨k1, k2⟩ := ok τ.b μ2 F2 h2 H2 Eg R2 hkp i
    by_cases hlt : i < ds.length
    · obtain ⟨go, yl⟩ := k1 hlt
      refine .inr ⟨go, fun H' => i + 1 ≤ ds.length ∧ ∃ μ2 F2 h2 ws acc, Ext τ.b μ F H h μ2 F2 H' h2 ∧ Ext τ.b μ1 F1 H1 h1 μ2 F2 H' h2 ∧ RelH ca μ2 F2 h2 H' ∧ H' D = some (.dK ws) ∧ ws.map (·.1) = acc.map (·.1) ∧ VRs ca μ2 F2 (ws.map (·.2)) (acc.map (·.2)) ∧ D ∉ μ2 ∧ F2 D = none ∧
          PostG ca τ.b μ F H h (dcGo kp g t kx vx τ.b (Z.clr vs τ.s) (ds.drop (i + 1)) h2 acc) (wx ca W σ) fun r μ1 F1 H1 _ => ∀ v, RR ca μ1 F1 H H1 v r → Q v H1,
        fun H' z => ⟨ds.length - (i + 1), by omega, rfl, z.1, z.2⟩, fun y H3 yy => ?_⟩
      obtain ⟨F3, d, ed, E3, R3, V3⟩ := yl y H3 yy
      have E3' := E3 τ.b
      -- what stays of the new list through a step
      have stay : ∀ {μ4 : List Addr} {F4 H4 : Hp} {h4 : Own}, Ext τ.b μ2 F2 H2 h2 μ4 F4 H4 h4 → H4 D = some (.dK ws) ∧ D ∉ μ4 ∧ F4 D = none := fun {μ4 F4 H4 h4} E => by
        refine ⟨E.frame D _ q2 nM, fun z => ?_, ?_⟩
        · obtain ⟨m, e1, e2⟩ := E.pre
          rw [e1] at z
          rcases List.mem_append.mp z with z | z
          · exact nM z
          · rw [e2 D z] at q2; cases q2
        · cases q : F4 D with
          | none => rfl
          | some u =>
            rcases E.newF D (by rw [q]; simp) with z | z | z | ⟨_, z⟩
            · exact absurd nF z
            · exact absurd z nM
            · rw [z] at q2; cases q2
            · rw [z] at q2; cases q2
      have hd : ds.drop i = d :: ds.drop (i + 1) := by
        rw [List.drop_eq_getElem_cons hlt]
        congr 1
        exact Option.some.inj ((List.getElem?_eq_getElem hlt).symm.trans ed)
      rw [hd, dcGo, if_pos hkp] at w
      have hbl : τ.b ≤ h2.length := Nat.le_trans A.bl (E2.len A.rel R2)
      have S3 : SR ca μ2 F3 (Z.clr vs τ.s) (L2.wipe σ vs) := SR.wipe (E3'.sr (E2.sr A.sl)) vs
      cases hgd : g d ⟨τ.b, Z.clr vs τ.s⟩ h2 with
      | next s4 h4 =>
        rw [hgd] at w
        dsimp only at w
        refine ⟨μ2, F3, ⟨τ.b, Z.clr vs τ.s⟩, h2, d, ⟨R3, S3, hbl⟩, V3, s4, h4, hgd, fun μ4 F4 H4 σ4 E4 R4 S4 w4 => ⟨?_, ?_⟩⟩
        · rw [w4]
          apply List.ext_getElem?
          intro j
          rw [wipe_get, wipe_get, wipe_length]
          by_cases hj : j ∈ vs ∧ j < σ.length
          · rw [if_pos hj, if_pos hj]
          · rw [if_neg hj, if_neg hj]
        · have bl4 : τ.b ≤ h4.length := Nat.le_trans hbl (E4.len R3 R4)
          refine ⟨μ4, F4, ⟨τ.b, s4⟩, h4, ⟨R4, S4, bl4⟩, ?_⟩
          cases ht : t ⟨τ.b, s4⟩ h4 with
          | stuck => rw [ht] at w; exact w.elim
          | exc c h5 => rw [ht] at w; exact w.elim
          | ok k h5 =>
            rw [ht] at w
            intro μ5 F5 H5 E5 R5
            have bl5 : τ.b ≤ h5.length := Nat.le_trans bl4 (E5.len R4 R5)
            cases k with
            | false =>
              dsimp only at w
              obtain ⟨z1, z2, z3⟩ := stay (E3'.trans (E4.trans E5))
              exact ⟨hlt, μ5, F5, h5, ws, acc, E2.trans (E3'.trans (E4.trans E5)), Eg.trans (E3'.trans (E4.trans E5)), R5, z1, K2, (E3'.trans (E4.trans E5)).vrs V2, z2, z3, w⟩
            | true =>
              dsimp only at w
              show rdD ca W0 kx σ4 H5 _
              refine ⟨μ5, F5, ⟨τ.b, s4⟩, h5, ⟨R5, E5.sr S4, bl5⟩, ?_⟩
              cases hx : kx ⟨τ.b, s4⟩ h5 with
              | stuck => rw [hx] at w; exact w.elim
              | exc c h6 => rw [hx] at w; exact w.elim
              | ok y6 h6 =>
                rw [hx] at w
                dsimp only at w
                intro μ6 F6 H6 E6 R6 v6 V6
                have bl6 : τ.b ≤ h6.length := Nat.le_trans bl5 (E6.len R5 R6)
                show rdD ca W0 vx σ4 H6 _
                refine ⟨μ6, F6, ⟨τ.b, s4⟩, h6, ⟨R6, E6.sr (E5.sr S4), bl6⟩, ?_⟩
                cases hy : vx ⟨τ.b, s4⟩ h6 with
                | stuck => rw [hy] at w; exact w.elim
                | exc c h7 => rw [hy] at w; exact w.elim
                | ok z7 h7 =>
                  rw [hy] at w
                  dsimp only at w
                  cases ek : asK y6 with
                  | none => rw [ek] at w; exact w.elim
                  | some kk =>
                    rw [ek] at w
                    dsimp only at w
                    have evk := asK_ok V6 ek
                    by_cases hl : acc.length < sizeLine
                    · rw [if_pos hl] at w
                      intro μ7 F7 H7 E7 R7 v7 V7
                      have Ea := E3'.trans (E4.trans (E5.trans (E6.trans E7)))
                      obtain ⟨z1, z2, z3⟩ := stay Ea
                      have hlen : ws.length = acc.length := by simpa using congrArg List.length K2
                      obtain ⟨p1, p2⟩ := vr_put kk V7 K2 (Ea.vrs V2)
                      exact ⟨ws, kk, evk, z1, by rw [hlen]; exact hl, hlt, μ7, F7, h7, putK ws kk v7, putD acc kk z7, (E2.trans Ea).updFree hD0, (Eg.trans Ea).updFree hD, R7.updFree z2 z3, upd_same, p1, p2, z2, z3, w⟩
                    · rw [if_neg hl] at w; exact w.elim
      | _ => rw [hgd] at w; exact w.elim
    · refine .inl ⟨k2 (by omega), ?_⟩
      rw [List.drop_eq_nil_of_le (by omega), dcGo, if_pos hkp] at w
      exact w μ2 F2 H2 E2 R2 (.ref D) ⟨D, rfl, hD0, by rw [q2]; simp, nM, nF, ws, q2, K2, V2⟩
theorem se_dc {kx vx tg iter : Expr} {ifs : List Expr} {scope : Scope} {own : List (Str × Nat)} {it : EI} {g : ET} {t : EB} {xk xv : ED} (hc : X.calm = true) (hN : X.N.Nodup) (hi : SI ca X W tg iter it) (ok : BlkOk X.N X.env.scope scope own)
    (hg : ∀ (s : Shared) (H : Hp) (C : Addr) (cl : List (Str × Addr)) (fp : List Addr), SGw ca (X.blk s H scope (compEnvC scope cl C X.env) fp) (own.map (·.2)) tg g) (ht : ∀ (s : Shared) (H : Hp) (C : Addr) (cl : List (Str × Addr)) (fp : List Addr), STs ca (X.blk s H scope (compEnvC scope cl C X.env) fp) ifs t)
    (hk : ∀ (s : Shared) (H : Hp) (C : Addr) (cl : List (Str × Addr)) (fp : List Addr), SD ca (X.blk s H scope (compEnvC scope cl C X.env) fp) W0 kx xk)
    (he : ∀ (s : Shared) (H : Hp) (C : Addr) (cl : List (Str × Addr)) (fp : List Addr), SD ca (X.blk s H scope (compEnvC scope cl C X.env) fp) W0 vx xv) (hs : ∀ x, foldedSetIterable iter X.env x = pure x) :
    SE ca X W (.DictComp kx vx [⟨tg, iter, ifs, 0⟩] scope pos) (eDC it g t xk xv (own.map (·.2))) := PE.imp (pe_dc hc hN hi ok hg ht hk he hs) fun σ H Q h => dc_rd (wi := rdI ca W it) h
end
/-! ### d.update(d2) -/
def rDUpd : V → List V → Hp → VK → Prop := fun x vs H Q => ∃ d o kvs more, x = .ref d ∧ vs = [.ref o] ∧ d ≠ o ∧ H d = some (.dK kvs) ∧ Rd H o (.dK more) ∧ kvs.length + more.length ≤ sizeLine ∧ Q .non (upd H d (.dK (mergeK kvs more)))
theorem mt_dupd {X : Cx} : MtR X "dict.update" rDUpd := by
  intro pins s σ H x vs v us Q I rx rv h
  obtain ⟨d, o, kvs, more, rfl, rfl, hne, hd, ho, hl, q⟩ := h
  cases rx
  rw [Vals.ref1 rv]
  obtain ⟨z1, g1, vs1, r1, d1⟩ := dk_of I.hok hd
  obtain ⟨z2, g2, vs2, r2, d2⟩ := dk_rd I.hok ho
  refine call_meetsIn PySem.F.slot_dict_update d1.typeIs PySem.F.entry_dict_update (PySem.F.args_dict_update_2 _ _) (meets_dict_update (mixKind X.prog X.w) d o hne g2) ⟨vs1, vs2, d1, d2, by rw [← r1.length, ← r2.length]; exact hl, fun h' m _ hs => ?_⟩
  have he : ∃ q, h'.get? d = some q := let ⟨q, _, _, hq, _⟩ := m; ⟨q, hq⟩
  have hz : (mergeK kvs more).length ≤ sizeLine := Nat.le_trans (length_mergeK more kvs) hl
  exact ⟨.non, _, d_write (t' := s.toks) I (by rw [hd]; exact True.intro) hs he (dk_new hz g1 (r2.merge r1) m), rfl, q⟩
section
variable {ca : Cn}
def fUpd : FM := fun d xs b h => match d, xs with
  | .ref n, [.dK more] => match h[n]? with
    | some (.dK kds) => if kds.length + more.length ≤ sizeLine then (match putO h b n (.dK (mergeD kds more)) with
      | some h' => .ok (.v .non) h'
      | none => .stuck) else .stuck
    | _ => .stuck
  | _, _ => .stuck
theorem lk_upd : LkM ca fUpd rDUpd := fun b μ F H h Wx x d vs ds Q R V1 Vs _ p => by
  unfold fUpd at p
  split at p
  · rename_i n more
    obtain ⟨v, rfl, Vr⟩ := Vs.one
    cases V1 with
    | @ref a n en =>
      cases Vr with
      | @dK o kvs2 kds2 q2 k2 r2 =>
        split at p
        · rename_i kds e0
          obtain ⟨kvs, q1, k1, r1⟩ := R.ob n _ _ en e0
          have l1 : kvs.length = kds.length := by simpa using congrArg List.length k1
          have l2 : kvs2.length = more.length := by simpa using congrArg List.length k2
          by_cases hl : kds.length + more.length ≤ sizeLine
          · rw [if_pos hl] at p
            cases e3 : putO h b n (.dK (mergeD kds more)) with
            | none => rw [e3] at p; exact p.elim
            | some h' =>
              rw [e3] at p
              have hne : a ≠ o := by
                rintro rfl
                have := R.sep n a _ en e0 (fun z => nomatch z)
                rw [q2] at this
                cases this
              obtain ⟨w1, w2⟩ := merge_ok k2 r2 k1 r1
              obtain ⟨R2, E2⟩ := put_ok R en e0 rfl e3 (u := .dK (mergeK kvs kvs2)) fun H' q => ⟨_, q, w1, w2⟩
              exact ⟨a, o, kvs, kvs2, rfl, rfl, hne, q1, Rd.of (R.fz _ _ q2), by rw [l1, l2]; exact hl, p μ F _ E2 R2 _ (show VR ca _ _ _ _ from .non)⟩
          · rw [if_neg hl] at p; exact p.elim
        · exact p.elim
  · exact p.elim
end
end Z
set_option Elab.async false
set_option linter.all false
set_option maxRecDepth 100000
/-! Z24: what is known of an exception class of the program's own. -/
namespace Z
open PySem PySem.Spec L2
structure ExFC (K : PySem.W.Frag) (mg : Str → Option Value) (x : Str) (C : Addr) : Prop where
  g : mg x = some (.ref C)
  ex : PySem.W.excIn K C [.type "ValueError", .type "Exception", .type "BaseException", .type "object"] "ValueError.__new__" = true
  kp : PySem.W.keepIn K (.ref C) = true
  b : PySem.W.subIn K (.ref C) (.type "BaseException") = some true
  t : PySem.W.typeIn K (.ref C) = some (.type "type")
  em : PySem.W.exmOne K (.ref C) (.ref C) = some true
abbrev ExF (K : PySem.W.Frag) (mg : Str → Option Value) (ca : Cn) (x : Str) (c : Nat) : Prop := ExFC K mg x (ca.ad c)
theorem exm_self' {K : PySem.W.Frag} {C : Addr} (b : PySem.W.subIn K (.ref C) (.type "BaseException") = some true) (i : PySem.W.isClsIn K C = true) (t : PySem.W.typeIn K (.ref C) = some (.type "type")) (s : PySem.W.subIn K (.ref C) (.ref C) = some true) :
    PySem.W.exmOne K (.ref C) (.ref C) = some true := by
  have i' : (PySem.W.clsIn K C).isSome = true := i
  have z1 : (PySem.W.subIn K (.ref C) (.type "BaseException") == some true) = true := by rw [b]; rfl
  have z2 : ((PySem.W.clsIn K C).isSome && PySem.W.typeIn K (.ref C) == some (.type "type")) = true := by rw [i', t]; rfl
  unfold PySem.W.exmOne
  rw [if_pos z1]
  exact (if_pos z2).trans s
end Z
set_option Elab.async false
set_option linter.all false
set_option maxRecDepth 100000
/-! Z25: numbers, words, draws, dicts of marks: what holds of no program alone. -/
namespace Z
open PySem PySem.Spec L2
abbrev nD (n : Nat) : D := .int (n : Int)
abbrev wD (w : List Nat) : D := .tup (w.map nD)
@[simp] theorem nrf_nDs : ∀ w : List Nat, nrfs (w.map nD) = true
  | [] => rfl
  | _ :: w => by rw [List.map_cons, nrfs, nrf_nDs w]; rfl
@[simp] theorem nrf_wD (w : List Nat) : nrf (wD w) = true := by rw [wD, nrf, nrf_nDs]
@[simp] theorem nrf_wDs : ∀ w : List (List Nat), nrfs (w.map wD) = true
  | [] => rfl
  | _ :: w => by rw [List.map_cons, nrfs, nrf_wDs w, nrf_wD]; rfl
@[simp] theorem flat_nDs : ∀ w : List Nat, (w.map nD).all flatD = true
  | [] => rfl
  | _ :: w => by rw [List.map_cons, List.all_cons, flat_nDs w]; rfl
theorem anyD (w : List Nat) (n : Nat) : ((w.map nD).any fun z => eqD z (nD n)) = w.contains n := by
  induction w with
  | nil => rfl
  | cons a w ih =>
    rw [List.map_cons, List.any_cons, ih, List.contains_cons]
    congr 1
    show ((a : Int) == (n : Int)) = (n == a)
    rw [Bool.eq_iff_iff]
    simp
    omega
theorem ix_w {w : List Nat} {n a : Nat} (h : Own) (e : w[n]? = some a) : fIx (wD w) (nD n) h = .ok (.v (nD a)) h :=
  fIx_q (ds := w.map nD) rfl rfl (by rw [List.getElem?_map, e]; rfl)
theorem ix_L {L : List (List Nat)} {n : Nat} {a : List Nat} (h : Own) (e : L[n]? = some a) : fIx (.tup (L.map wD)) (nD n) h = .ok (.v (wD a)) h :=
  fIx_q (ds := L.map wD) rfl rfl (by rw [List.getElem?_map, e]; rfl)
theorem ix_Ll {L : List (List Nat)} {n : Nat} {a : List Nat} (h : Own) (e : L[n]? = some a) : fIx (.lst (L.map wD)) (nD n) h = .ok (.v (wD a)) h :=
  fIx_q (ds := L.map wD) rfl rfl (by rw [List.getElem?_map, e]; rfl)
theorem ix_q {d : D} {w : List Nat} {n a : Nat} (h : Own) (q : asQ h d = some (w.map nD)) (e : w[n]? = some a) : fIx d (nD n) h = .ok (.v (nD a)) h :=
  fIx_q q rfl (by rw [List.getElem?_map, e]; rfl)

def has (w : List Nat) (n : Nat) : Bool := w.contains n
theorem has_iff {w : List Nat} {n : Nat} : has w n = true ↔ n ∈ w := by simp [has]
@[simp] theorem fIn_w (w : List Nat) (n : Nat) (h : Own) : fIn (nD n) (wD w) h = .ok (.v (.bl (has w n))) h := by
  rw [fIn_q (ds := w.map nD) rfl rfl (flat_nDs w), anyD]; rfl
@[simp] theorem fNotIn_w (w : List Nat) (n : Nat) (h : Own) : fNotIn (nD n) (wD w) h = .ok (.v (.bl (!has w n))) h := by
  rw [fNotIn_q (ds := w.map nD) rfl rfl (flat_nDs w), anyD]; rfl
theorem fIn_q' {w : List Nat} {d : D} (n : Nat) (h : Own) (e : asQ h d = some (w.map nD)) : fIn (nD n) d h = .ok (.v (.bl (has w n))) h := by
  rw [fIn_q e rfl (flat_nDs w), anyD]; rfl
theorem any_take_succ {α : Type} (p : α → Bool) {w : List α} {k : Nat} (hk : k < w.length) : (w.take (k + 1)).any p = ((w.take k).any p || p w[k]) := by
  rw [List.take_succ_eq_append_getElem hk, List.any_append]
  simp
theorem range_filter_succ (p : Nat → Bool) (k : Nat) : (List.range (k + 1)).filter p = if p k then (List.range k).filter p ++ [k] else (List.range k).filter p := by
  rw [List.range_succ, List.filter_append]
  cases h : p k <;> simp [h]
theorem toP_nDs (k : Nat) : ∀ w : List Nat, (w.map nD).mapM (toP k) = some (w.map fun n : Nat => PyData.int (n : Int))
  | [] => rfl
  | a :: w => by
    rw [List.map_cons, List.mapM_cons, toP_nDs k w]
    have : toP k (nD a) = some (.int (a : Int)) := by cases k <;> rfl
    rw [this]
    rfl
theorem eqvAll_nats : ∀ u v : List Nat, PyData.eqvAll (u.map fun n : Nat => PyData.int (n : Int)) (v.map fun n : Nat => PyData.int (n : Int)) = decide (u = v)
  | [], [] => by simp [PyData.eqvAll]
  | [], b :: v => by simp [PyData.eqvAll]
  | a :: u, [] => by simp [PyData.eqvAll]
  | a :: u, b :: v => by
    rw [List.map_cons, List.map_cons, PyData.eqvAll, eqvAll_nats u v, PyData.eqv]
    rw [Bool.eq_iff_iff]
    simp
    intro _
    omega
theorem toPh_wD (w : List Nat) (h : Own) : toPh h (wD w) = some (.tuple (w.map fun n : Nat => PyData.int (n : Int))) := by
  show ((w.map nD).mapM (toP 7)).map PyData.tuple = _
  rw [toP_nDs]
  rfl
theorem fEq_w (u v : List Nat) (h : Own) : fEq (wD u) (wD v) h = .ok (.v (.bl (decide (u = v)))) h := by
  unfold fEq fEqN
  rw [toPh_wD, toPh_wD]
  simp [PyData.eqv, eqvAll_nats]
theorem fNe_w (u v : List Nat) (h : Own) : fNe (wD u) (wD v) h = .ok (.v (.bl (!decide (u = v)))) h := by
  unfold fNe fEqN
  rw [toPh_wD, toPh_wD]
  simp [PyData.eqv, eqvAll_nats]
theorem downD_eq (n : Nat) : downD ((n : Int) - 1) n = (List.range n).map fun k : Nat => D.int ((n - 1 - k : Nat) : Int) := by
  unfold downD
  apply List.map_congr_left
  intro k hk
  have := List.mem_range.mp hk
  congr 1
  omega
theorem asB_bls : ∀ bs : List Bool, asB (bs.map D.bl) = some bs
  | [] => rfl
  | b :: bs => by rw [List.map_cons, asB, asB_bls bs]; rfl
theorem fAny_bls (bs : List Bool) (h : Own) : fAny [.lst (bs.map .bl)] h = .ok (.v (.bl (bs.any id))) h := by
  unfold fAny fBls
  simp [asB_bls]
theorem fAll_bls (bs : List Bool) (h : Own) : fAll [.lst (bs.map .bl)] h = .ok (.v (.bl (bs.all id))) h := by
  unfold fAll fBls
  simp [asB_bls]
theorem len_filter_pos (p : Nat → Bool) (w : List Nat) : decide ((0 : Int) < (w.filter p).length) = w.any p := by
  rw [Bool.eq_iff_iff, decide_eq_true_eq, List.any_eq_true]
  constructor
  · intro h
    have h0 : 0 < (w.filter p).length := by omega
    obtain ⟨x, hx⟩ := List.exists_mem_of_length_pos h0
    rw [List.mem_filter] at hx
    exact ⟨x, hx.1, hx.2⟩
  · rintro ⟨x, hx, hp⟩
    have : x ∈ w.filter p := List.mem_filter.mpr ⟨hx, hp⟩
    have := List.length_pos_of_mem this
    omega
theorem fNe_nn {a b : Nat} {h : Own} : fNe (nD a) (nD b) h = .ok (.v (.bl (!decide (a = b)))) h := by
  rw [fNe_ii]
  congr 4
  rw [decide_eq_decide]
  omega
def iL (ds : List Int) : O := .lst (ds.map .int)
theorem nrf_ints : ∀ ds : List Int, nrfs (ds.map D.int) = true
  | [] => rfl
  | _ :: ds => by rw [List.map_cons, nrfs, nrf_ints ds]; rfl
theorem nrf_iL (ds : List Int) : nrfO (iL ds) = true := by rw [iL, nrfO, nrf_ints]
/-- at d the draws lie -/
def Dr (h : Own) (d : Nat) (ds : List Int) : Prop := h[d]? = some (iL ds)
/-- the heap H goes on from h, but for the draws at d -/
structure Dq (h : Own) (d : Nat) (H : Own) : Prop where
  lt : d < h.length
  ex : ∃ ds l, H = h.set d (iL ds) ++ l
theorem Dq.dr {h H : Own} {d : Nat} (D : Dq h d H) : ∃ ds, Dr H d ds := by
  obtain ⟨ds, l, rfl⟩ := D.ex
  refine ⟨ds, ?_⟩
  unfold Dr
  rw [hp_getl (by simpa using D.lt)]
  simp [D.lt]
theorem Dq.le {h H : Own} {d : Nat} (D : Dq h d H) : h.length ≤ H.length := by
  obtain ⟨ds, l, rfl⟩ := D.ex
  simp
theorem set_self {h : Own} {d : Nat} {o : O} (e : h[d]? = some o) : h.set d o = h := by
  have hlt : d < h.length := (List.getElem?_eq_some_iff.mp e).1
  apply List.ext_getElem?
  intro i
  rw [List.getElem?_set]
  split
  · rename_i q; subst q; simp [hlt]; exact (Option.some.inj ((List.getElem?_eq_getElem hlt).symm.trans e)).symm
  · rfl
theorem Dq.refl {h : Own} {d : Nat} {ds : List Int} (D : Dr h d ds) : Dq h d h :=
  ⟨(List.getElem?_eq_some_iff.mp D).1, ds, [], by rw [set_self D]; simp⟩
theorem Dq.set {h H : Own} {d n : Nat} (D : Dq h d H) (hn : h.length ≤ n) (o : O) : Dq h d (H.set n o) := by
  obtain ⟨ds, l, rfl⟩ := D.ex
  refine ⟨D.lt, ds, l.set (n - h.length) o, ?_⟩
  rw [List.set_append, if_neg (by simp; omega)]
  simp
theorem Dq.push {h H : Own} {d : Nat} (D : Dq h d H) (o : O) : Dq h d (H ++ [o]) := by
  obtain ⟨ds, l, rfl⟩ := D.ex
  exact ⟨D.lt, ds, l ++ [o], by simp⟩
theorem Dq.cut {h H : Own} {d : Nat} (D : Dq h d H) : ∃ ds, H.take h.length = h.set d (iL ds) := by
  obtain ⟨ds, l, rfl⟩ := D.ex
  exact ⟨ds, by simp⟩
theorem call_x {G : BD} {as : List D} {h : Own} {Pr : D → Own → Prop} (e : W (G h.length as h) fun r => ∃ d h1, r = .ret (.v d) h1 ∧ nrf d = true ∧ Pr d h1) : ∃ d h1, Pr d h1 ∧ callB G as h = .ok (.v d) (h1.take h.length) := by
  obtain ⟨d, h1, e, nd, p⟩ := e
  refine ⟨d, h1, p, ?_⟩
  unfold callB
  rw [e]
  show exitR h.length (.v d) h1 = _
  unfold exitR
  cases d <;> first | (cases nd; done) | (dsimp only; rw [if_pos nd])
theorem call_xr {G : BD} {as : List D} {h : Own} {Pr : O → Own → Prop} (e : W (G h.length as h) fun r => ∃ m o h1, r = .ret (.v (.ref m)) h1 ∧ h.length ≤ m ∧ h1[m]? = some o ∧ nrfO o = true ∧ notDead o = true ∧ Pr o h1) : ∃ o h1, Pr o h1 ∧ callB G as h = .ok (.n o) (h1.take h.length) := by
  obtain ⟨m, o, h1, e, hm, e2, n1, n2, p⟩ := e
  refine ⟨o, h1, p, ?_⟩
  unfold callB
  rw [e]
  show exitR h.length (.v (.ref m)) h1 = _
  unfold exitR
  dsimp only
  rw [if_neg (by omega), e2]
  dsimp only
  rw [if_pos ⟨n1, n2⟩]
def kd (cs : List Nat) : List (Key × D) := cs.map fun c : Nat => (Sum.inl (c : Int), D.bl true)
theorem putD_kd (cs : List Nat) (c : Nat) : putD (kd cs) (Sum.inl (c : Int) : Key) (.bl true) = kd (if c ∈ cs then cs else cs ++ [c]) := by
  have h1 : ((kd cs).any fun p => decide (p.1 = (Sum.inl (c : Int) : Key))) = decide (c ∈ cs) := by
    unfold kd
    rw [List.any_map, Bool.eq_iff_iff, List.any_eq_true, decide_eq_true_eq]
    constructor
    · rintro ⟨x, hx, e⟩
      have : (x : Int) = c := by simpa using e
      have : x = c := by omega
      exact this ▸ hx
    · exact fun hx => ⟨c, hx, by simp⟩
  unfold putD
  rw [h1]
  by_cases hc : c ∈ cs
  · rw [if_pos (by simpa using hc), if_pos hc]
    unfold kd
    rw [List.map_map]
    apply List.map_congr_left
    intro x _
    simp only [Function.comp]
    split
    · rename_i e; rw [e]
    · rfl
  · rw [if_neg (by simpa using hc), if_neg hc]
    unfold kd
    simp
theorem isort_nat (cs : List Nat) (nd : cs.Nodup) : ∃ l : List Nat, isort (cs.map fun c : Nat => (c : Int)) = l.map (fun c : Nat => (c : Int)) ∧ l.Perm cs ∧ l.Pairwise (· < ·) := by
  refine ⟨cs.mergeSort (· ≤ ·), ?_, List.mergeSort_perm _ _, ?_⟩
  · symm
    apply isort_uniq
    · exact (List.mergeSort_perm _ _).map _
    · have := List.pairwise_mergeSort (le := fun a b : Nat => decide (a ≤ b)) (fun a b c h1 h2 => by simp at *; omega) (fun a b => by simp; omega) cs
      rw [List.pairwise_map]
      exact this.imp fun h => by simp at h; omega
  · have h1 := List.pairwise_mergeSort (le := fun a b : Nat => decide (a ≤ b)) (fun a b c h1 h2 => by simp at *; omega) (fun a b => by simp; omega) cs
    have h2 : (cs.mergeSort (· ≤ ·)).Nodup := (List.mergeSort_perm _ _).nodup_iff.mpr nd
    have h3 := h1.and h2
    exact h3.imp fun ⟨a, b⟩ => by simp at a; omega
@[simp] theorem pNil_eq {τ : Fm} {h : Own} : pNil τ h = .ok [] h := rfl
@[simp] theorem pCons_eq {k v : ED} {r : EPs} {τ : Fm} {h : Own} : pCons k v r τ h = (k τ h).bind fun kd h1 => (v τ h1).bind fun d h2 => (r τ h2).bind fun ps h3 => match asK kd with
  | some kk => .ok ((kk, d) :: ps) h3
  | none => .stuck := by
  unfold pCons
  rfl
@[simp] theorem eDisp_eq {ps : EPs} {τ : Fm} {h : Own} : eDisp ps τ h = (ps τ h).bind fun kds h1 => if kds.length ≤ 15 then .ok (.n (.dK (mergeD [] kds))) h1 else .stuck := rfl
@[simp] theorem asK_int {i : Int} : asK (.int i) = some (Sum.inl i) := rfl
@[simp] theorem sPut_eq {o i x : ED} {τ : Fm} {h : Own} : sPut o i x τ h = sE x (fun v τ h => sE o (fun d τ h => sE i (fun k τ h => match fPut τ.b d k v h with
  | some h1 => .next τ.s h1
  | none => .stuck) τ h) τ h) τ h := by
  unfold sPut
  rfl
theorem get_set_ne {H : Own} {n m : Nat} {o : O} (h : n ≠ m) : (H.set n o)[m]? = H[m]? := by rw [List.getElem?_set, if_neg h]
theorem get_set_self {H : Own} {n : Nat} {o : O} (h : n < H.length) : (H.set n o)[n]? = some o := by rw [List.getElem?_set]; simp [h]
theorem lt_of_get {H : Own} {n : Nat} {o : O} (h : H[n]? = some o) : n < H.length := (List.getElem?_eq_some_iff.mp h).1
theorem get_push {H : Own} {n : Nat} {o x : O} (h : H[n]? = some o) : (H ++ [x])[n]? = some o := by rw [List.getElem?_append_left (lt_of_get h)]; exact h
theorem fMulA_r {i j : Int} {h : Own} (hj : -(2 ^ 64) < j ∧ j < 2 ^ 64) : fMulA (.int i) (.int j) h = .ok (.v (.int (i * j))) h := by
  have hc : (decide (-(2 ^ 64) < i ∧ i < 2 ^ 64) || decide (-(2 ^ 64) < j ∧ j < 2 ^ 64)) = true := by
    rw [decide_eq_true hj, Bool.or_true]
  have e1 : fMul (.int i) (.int j) h = .ok (.v (.int (i * j))) h := by
    unfold fMul fIc
    dsimp only
    rw [if_pos hc]
  show (match fMul (.int i) (.int j) h with | .stuck => fRepL (.int i) (.int j) h | z => z) = _
  rw [e1]
theorem small64 {j : Int} (h1 : -1000000000000 < j) (h2 : j < 1000000000000) : -(2 ^ 64) < j ∧ j < 2 ^ 64 := by
  simp only [Int.reducePow]
  omega
theorem fPut_lst {H : Own} {b n : Nat} {xs : List Z.D} {k : Nat} {v : Z.D} (hb : b ≤ n) (hk : k < xs.length) (e : H[n]? = some (.lst xs)) : fPut b (.ref n) (.int (k : Int)) v H = some (H.set n (.lst (xs.set k v))) := by
  unfold fPut
  simp only [e, ixN_nat hk]
  rw [putO_own hb]
theorem take_set {H : Own} {n m : Nat} {o : O} (h : n ≤ m) : (H.set m o).take n = H.take n := by
  rw [List.take_set]
  apply List.set_eq_of_length_le
  rw [List.length_take]
  omega
theorem W_imp {x : SRes} {Q Q' : SRes → Prop} (h : W x Q) (i : ∀ r, Q r → Q' r) : W x Q' := i _ h
@[simp] theorem fIsN_nn {i : Int} {b : Bool} {h : Own} : isN (.int i) = false := rfl
@[simp] theorem isN_str {z : Str} : isN (.str z) = false := rfl
@[simp] theorem isN_tup {z : List Z.D} : isN (.tup z) = false := rfl
@[simp] theorem tyD_int {h : Own} {i : Int} : tyD h (.int i) = some "int" := rfl
@[simp] theorem tyD_str {h : Own} {i : Str} : tyD h (.str i) = some "str" := rfl
@[simp] theorem tyD_tup {h : Own} {i : List Z.D} : tyD h (.tup i) = some "tuple" := rfl
theorem fEq_bb {a b : Bool} {h : Own} : fEq (.bl a) (.bl b) h = .ok (.v (.bl (a == b))) h := by
  show Res.ok (R.v (.bl (PyData.eqv (.bool a) (.bool b)))) h = _
  simp [PyData.eqv]
theorem fNe_bb {a b : Bool} {h : Own} : fNe (.bl a) (.bl b) h = .ok (.v (.bl (!(a == b)))) h := by
  show Res.ok (R.v (.bl (!PyData.eqv (.bool a) (.bool b)))) h = _
  simp [PyData.eqv]
theorem fEq_ss {z : Str} (hz : PyData.strOk z = true) {h : Own} : fEq (.str z) (.str z) h = .ok (.v (.bl true)) h := by
  have e : toPh h (.str z) = some (.str z) := by
    show (if PyData.strOk z = true then some (PyData.str z) else none) = _
    rw [if_pos hz]
  unfold fEq fEqN
  rw [e]
  simp [PyData.eqv]
theorem W_seq' {a b : ST} {τ : Fm} {h : Own} {Q : SRes → Prop} (k : ∀ R : ST, R = b → W (a τ h) (Th R τ.b Q)) : W (sSeq a b τ h) Q := by
  rw [W_seq]
  exact k b rfl
@[simp] theorem frzO_ins {c : Nat} {fs : List Z.D} : frzO (.ins c fs) = some (.obj c fs) := rfl
theorem fNe_ss {z : Str} (hz : PyData.strOk z = true) {h : Own} : fNe (.str z) (.str z) h = .ok (.v (.bl false)) h := by
  have e : toPh h (.str z) = some (.str z) := by
    show (if PyData.strOk z = true then some (PyData.str z) else none) = _
    rw [if_pos hz]
  unfold fNe fEqN
  rw [e]
  simp [PyData.eqv]
theorem asI_ints : ∀ ns : List Int, asI (ns.map Z.D.int) = some ns
  | [] => rfl
  | n :: ns => by rw [List.map_cons, asI, asI_ints ns]; rfl
theorem lmax_some : ∀ {ns : List Int}, ns ≠ [] → ∃ m, lmax ns = some m
  | [], h => absurd rfl h
  | n :: ns, _ => by
    rw [lmax]
    cases lmax ns with
    | none => exact ⟨n, rfl⟩
    | some m => exact ⟨_, rfl⟩
theorem fMax_ints {ns : List Int} {m : Int} (h1 : m ∈ ns) (h2 : ∀ y ∈ ns, y ≤ m) (h : Own) : fMax [.lst (ns.map .int)] h = .ok (.v (.int m)) h := by
  obtain ⟨k, hk⟩ := lmax_some (ns := ns) (by rintro rfl; cases h1)
  have hk2 := lmax_ok hk
  have : k = m := Int.le_antisymm (h2 k hk2.1) (hk2.2 m h1)
  subst this
  unfold fMax fInts
  simp [asI_ints, hk]
theorem Dr.set {H : Own} {ds ds' : List Int} (h : Dr H 0 ds) : Dr (H.set 0 (iL ds')) 0 ds' := get_set_self (lt_of_get h)
theorem fPut_kd' {H : Own} {b n : Nat} {cs : List Nat} {c : Nat} (hb : b ≤ n) (hl : cs.length ≤ 1000) (e : H[n]? = some (.dK (kd cs))) : fPut b (.ref n) (nD c) (.bl true) H = some (H.set n (.dK (kd (if c ∈ cs then cs else cs ++ [c])))) := by
  unfold fPut
  simp only [e, asK_int]
  have hk : (kd cs).length < sizeLine := by unfold kd; rw [List.length_map]; exact szl (by omega)
  rw [if_pos hk, putO_own hb, putD_kd]
theorem items_kd (gs : List Nat) : ((kd gs).map fun p => kD p.1) = gs.map nD := by
  unfold kd
  rw [List.map_map]
  rfl
@[simp] theorem iKey_eq {x : ED} {τ : Fm} {h : Own} : iKey x τ h = (x τ h).bind fun d h1 => match d with
  | .ref n => match h1[n]? with
    | some (.lkK kds) => .ok (kds.map fun p => kD p.1, some (n, .lkK kds)) h1
    | some (.lkT kds) => .ok (kds.map fun p => .tup (p.1.map kD), some (n, .lkT kds)) h1
    | _ => .stuck
  | _ => .stuck := by
  unfold iKey
  rfl
theorem getD_kd (gs : List Nat) (k : Nat) : getD (kd gs) (Sum.inl (k : Int) : Key) = if k ∈ gs then some (.bl true) else none := by
  induction gs with
  | nil => rfl
  | cons g gs ih =>
    unfold getD kd at ih ⊢
    rw [List.map_cons, List.find?_cons]
    by_cases h : g = k
    · subst h
      simp
    · have : ((Sum.inl (g : Int) : Key) = Sum.inl (k : Int)) = False := by
        simp
        omega
      simp only [this, decide_false]
      rw [ih]
      have h' : k ≠ g := Ne.symm h
      simp [h']
theorem notIn_kd {H : Own} {n k : Nat} {gs : List Nat} (e : H[n]? = some (.dK (kd gs))) : fNotIn (nD k) (.ref n) H = .ok (.v (.bl (!gs.contains k))) H := by
  have h1 : fInQ true (nD k) (.ref n) H = .stuck := by
    unfold fInQ asQ asL
    simp [e]
  have h2 : fInK true (nD k) (.ref n) H = .ok (.v (.bl (!gs.contains k))) H := by
    unfold fInK askD asD
    have g := getD_kd gs k
    by_cases h : k ∈ gs
    · rw [if_pos h] at g
      simp [e, g, h]
    · rw [if_neg h] at g
      simp [e, g, h]
  show (match fInQ true (nD k) (.ref n) H with | .stuck => _ | z => z) = _
  rw [h1]
  dsimp only
  show (match fInK true (nD k) (.ref n) H with | .stuck => _ | z => z) = _
  rw [h2]
theorem W_step {a b : ST} {τ : Fm} {h h' : Own} {s' : Sl} {Q : SRes → Prop} (e : a τ h = .next s' h') (k : W (b ⟨τ.b, s'⟩ h') Q) : W (sSeq a b τ h) Q := by
  rw [W_seq, e]
  exact k
theorem W_stepW {a b : ST} {τ : Fm} {h : Own} {Q P : SRes → Prop} (e : W (a τ h) P) (k : ∀ r, P r → ∃ s' h', r = .next s' h' ∧ W (b ⟨τ.b, s'⟩ h') Q) : W (sSeq a b τ h) Q := by
  rw [W_seq]
  obtain ⟨s', h', e1, w⟩ := k _ e
  rw [e1]
  exact w
end Z
set_option Elab.async false
set_option linter.all false
set_option maxRecDepth 100000
/-! Z26: to compute with the newer constructs. -/
namespace Z
open PySem PySem.Spec L2
section
variable {τ : Fm} {h : Own} {c n : Nat} {x y : ST} {s : Sl}
@[simp] theorem sRaise_eq : sRaise c τ h = .exc c τ.s h := rfl
@[simp] theorem W_th_exc {b : ST} {k : Nat} {Q : SRes → Prop} : W (.exc c s h) (Th b k Q) = W (.exc c s h) Q := rfl
@[simp] theorem Th_exc {b : ST} {k : Nat} {Q : SRes → Prop} : Th b k Q (.exc c s h) = W (.exc c s h) Q := rfl
theorem sTry_exc {cs : List Nat} (e : x τ h = .exc c s h) (hc : c ∈ cs) : sTry cs x y τ h = nox (y ⟨τ.b, s⟩ h) := by
  unfold sTry
  rw [e]
  exact if_pos hc
theorem sTry_next {cs : List Nat} {h1 : Own} (e : x τ h = .next s h1) : sTry cs x y τ h = .next s h1 := by
  unfold sTry
  rw [e]
@[simp] theorem eMkX_eq {G : BD} {xs : EA} : eMkX c n G xs τ h = (xs τ h).bind fun ds h1 => if ds.length + 1 = n then
  (match G h1.length (.ref h1.length :: ds) (h1 ++ [.ins c []]) with
  | .next _ h3 => match h3[h1.length]? with
    | some (.ins c' fs) => if nrfs fs = true then .ok (.n (.ins c' fs)) (h3.take h1.length) else .stuck
    | _ => .stuck
  | .exc k _ h3 => .exc k (h3.take h1.length)
  | _ => .stuck) else .stuck := by
  unfold eMkX
  rfl
@[simp] theorem eDisp1_eq {k v : ED} : eDisp1 k v τ h = (k τ h).bind fun x h1 => (v τ h1).bind fun y h2 => match asKs x with
  | some ks => .ok (.n (.dT [(ks, y)])) h2
  | none => .stuck := by
  unfold eDisp1
  rfl
@[simp] theorem iEnA_eq {xs : EA} : iEnA xs τ h = (xs τ h).bind fun ds h1 => match ds with
  | [.lst ds] => .ok (enD ds, none) h1
  | [.tup ds] => .ok (enD ds, none) h1
  | [.ref n] => match h1[n]? with
    | some (.lst ds) => .ok (enD ds, some (n, .lst ds)) h1
    | _ => .stuck
  | _ => .stuck := by
  unfold iEnA
  rfl
@[simp] theorem iZp_eq {xs : EA} : iZp xs τ h = (xs τ h).bind fun ds h1 => match ds with
  | [.lst xs, .lst ys] => .ok (zipD xs ys, none) h1
  | _ => .stuck := by
  unfold iZp
  rfl
@[simp] theorem eDC_eq {it : EI} {g : ET} {t : EB} {kx vx : ED} {vs : List Nat} : eDC it g t kx vx vs τ h = (it τ h).bind fun p h1 => dcGo p.2 g t kx vx τ.b (Z.clr vs τ.s) p.1 h1 [] := rfl
@[simp] theorem tTup_eq {gs : ETs} {ds : List D} : tTup gs (.tup ds) τ h = gs ds τ h := rfl
@[simp] theorem tCons_eq {g : ET} {gs : ETs} {d : D} {ds : List D} : tCons g gs (d :: ds) τ h = (match g d τ h with
  | .next s h1 => gs ds ⟨τ.b, s⟩ h1
  | _ => .stuck) := by
  unfold tCons
  rfl
@[simp] theorem tNil_eq : tNil [] τ h = .next τ.s h := rfl
end
/-- the items of enumerate -/
theorem enD_map {α : Type} (f : α → D) (as : List α) : enD (as.map f) = (as.zipIdx).map fun p => .tup [.int (p.2 : Int), f p.1] := by
  unfold enD
  rw [List.zipIdx_map, List.map_map]
  rfl
/-- a dict comprehension of marks -/
theorem dc_kd {g : ET} {kx : ED} {b : Nat} {s : Sl} {h : Own} (as : List Nat) (cs : List Nat) (hs : ∀ a ∈ as, ∃ s1, g (nD a) ⟨b, s⟩ h = .next s1 h ∧ kx ⟨b, s1⟩ h = .ok (nD a) h) (hl : cs.length + as.length ≤ 1000000) :
    dcGo none g bYes kx (eC (.bl true)) b s (as.map nD) h (kd cs) = .ok (.n (.dK (kd (as.foldl (fun c a => if a ∈ c then c else c ++ [a]) cs)))) h := by
  induction as generalizing cs with
  | nil => simp [dcGo]
  | cons a as ih =>
    obtain ⟨s1, e1, e2⟩ := hs a List.mem_cons_self
    rw [List.map_cons]
    unfold dcGo
    rw [if_pos (by simp), e1]
    simp only [bYes_eq, e2, eC_eq, asK_int]
    rw [List.length_cons] at hl
    have h1 : (kd cs).length < sizeLine := by unfold kd; rw [List.length_map]; exact szl (by omega)
    rw [if_pos h1, putD_kd, ih _ (fun y hy => hs y (List.mem_cons_of_mem _ hy)) (by have : (if a ∈ cs then cs else cs ++ [a]).length ≤ cs.length + 1 := by { split <;> simp }; omega)]
    rfl
theorem mergeD_kd (cs : List Nat) : ∀ as : List Nat, mergeD (kd cs) (kd as) = kd (as.foldl (fun c a => if a ∈ c then c else c ++ [a]) cs)
  | [] => rfl
  | a :: as => by
    show mergeD (putD (kd cs) _ _) (kd as) = _
    rw [putD_kd, mergeD_kd _ as]
    rfl
theorem fSorted_kd' {H : Own} {n : Nat} {cs : List Nat} (nd : cs.Nodup) (hl : cs.length < 64) (e : H[n]? = some (.dK (kd cs))) : fSorted [.ref n] H = .ok (.n (.lst ((cs.mergeSort (· ≤ ·)).map nD))) H := by
  have e1 : isort (cs.map fun c : Nat => (c : Int)) = (cs.mergeSort (· ≤ ·)).map fun c : Nat => (c : Int) := by
    symm
    apply isort_uniq
    · exact (List.mergeSort_perm _ _).map _
    · have := List.pairwise_mergeSort (le := fun a b : Nat => decide (a ≤ b)) (fun a b c h1 h2 => by simp at *; omega) (fun a b => by simp; omega) cs
      rw [List.pairwise_map]
      exact this.imp fun h => by simp at h; omega
  have k1 : (kd cs).map (·.1) = (cs.map fun c : Nat => (c : Int)).map Sum.inl := by unfold kd; simp
  have hI : fSortI [.ref n] H = .stuck := by
    unfold fSortI asL
    simp [e]
  have hD : fSortD [.ref n] H = .ok (.n (.lst ((isort (cs.map fun c : Nat => (c : Int))).map .int))) H := by
    unfold fSortD asD
    simp only [e, k1, keyI_map]
    rw [if_pos (by simpa using hl)]
  show (match fSortI [.ref n] H with | .stuck => fSortD [.ref n] H | z => z) = _
  rw [hI]
  dsimp only
  rw [hD, e1, List.map_map]
  rfl
theorem fUpd_eq {H : Own} {b n : Nat} {kds more : List (Key × D)} (e : H[n]? = some (.dK kds)) (hl : kds.length + more.length ≤ 1000000) (hp : b ≤ n ∨ nrfO (.dK (mergeD kds more)) = true) :
    fUpd (.ref n) [.dK more] b H = .ok (.v .non) (H.set n (.dK (mergeD kds more))) := by
  unfold fUpd
  simp only [e]
  rw [if_pos (sz _ hl)]
  unfold putO
  rw [if_pos hp]
theorem fSSet_eq {H : Own} {d : D} {ns : List Int} (e : asQ H d = some (ns.map .int)) (hl : ns.length < 64) : fSSet [d] H = .ok (.n (.lst ((sset ns).map .int))) H := by
  unfold fSSet
  simp only [e, asI_ints]
  rw [if_pos hl]
end Z
set_option Elab.async false
set_option linter.all false
set_option maxRecDepth 100000
/-! Z27: plain values, to a depth. -/
namespace Z
open PySem PySem.Spec L2
def pln : Nat → D → Bool
  | 0, _ => false
  | _ + 1, .non => true
  | _ + 1, .bl _ => true
  | _ + 1, .int _ => true
  | _ + 1, .str z => PyData.strOk z
  | k + 1, .tup ds => decide (ds.length ≤ 100000) && ds.all (pln k)
  | k + 1, .lst ds => decide (ds.length ≤ 100000) && ds.all (pln k)
  | _, _ => false
@[simp] theorem pln_non {k : Nat} : pln (k + 1) .non = true := rfl
@[simp] theorem pln_bl {k : Nat} {b : Bool} : pln (k + 1) (.bl b) = true := rfl
@[simp] theorem pln_int {k : Nat} {i : Int} : pln (k + 1) (.int i) = true := rfl
theorem pln_tup {k : Nat} {ds : List D} (hl : ds.length ≤ 100000) (h : ∀ d ∈ ds, pln k d = true) : pln (k + 1) (.tup ds) = true := by
  show (decide (ds.length ≤ 100000) && ds.all (pln k)) = true
  rw [decide_eq_true hl, List.all_eq_true.mpr h]
  rfl
theorem pln_lst {k : Nat} {ds : List D} (hl : ds.length ≤ 100000) (h : ∀ d ∈ ds, pln k d = true) : pln (k + 1) (.lst ds) = true := by
  show (decide (ds.length ≤ 100000) && ds.all (pln k)) = true
  rw [decide_eq_true hl, List.all_eq_true.mpr h]
  rfl
theorem pln_nDs {k : Nat} (w : List Nat) : ∀ d ∈ w.map nD, pln (k + 1) d = true := fun d hd => by
  obtain ⟨n, _, rfl⟩ := List.mem_map.mp hd
  rfl
theorem pln_wD {k : Nat} {w : List Nat} (hl : w.length ≤ 100000) : pln (k + 2) (wD w) = true := pln_tup (by simpa using hl) (pln_nDs w)
theorem pln_nL {k : Nat} {w : List Nat} (hl : w.length ≤ 100000) : pln (k + 2) (.lst (w.map nD)) = true := pln_lst (by simpa using hl) (pln_nDs w)
end Z
set_option Elab.async false
set_option linter.all false
set_option maxRecDepth 100000
set_option maxHeartbeats 8000000
namespace K73
open PySem PySem.Spec L2 Z
def top (i : Nat) : Stmt := PySem.Challenge.pw_tracetalk_k73_systems.main.body.getD i (.Pass ⟨0, 0, 0, 0⟩)
/-- which names are not the module's own -/
structure Bt (mg : Str → Option Value) : Prop where
  all : mg "all" = none
  any : mg "any" = none
  bool : mg "bool" = none
  dict : mg "dict" = none
  enumerate : mg "enumerate" = none
  int : mg "int" = none
  isinstance : mg "isinstance" = none
  len : mg "len" = none
  list : mg "list" = none
  range : mg "range" = none
  set : mg "set" = none
  sorted : mg "sorted" = none
  str : mg "str" = none
  tuple : mg "tuple" = none
  zip : mg "zip" = none
theorem b_all : bootBuiltins "all" = some (.builtin "all") := by decide +kernel
theorem b_any : bootBuiltins "any" = some (.builtin "any") := by decide +kernel
theorem b_bool : bootBuiltins "bool" = some (.type "bool") := by decide +kernel
theorem b_dict : bootBuiltins "dict" = some (.type "dict") := by decide +kernel
theorem b_enumerate : bootBuiltins "enumerate" = some (.type "enumerate") := by decide +kernel
theorem b_int : bootBuiltins "int" = some (.type "int") := by decide +kernel
theorem b_isinstance : bootBuiltins "isinstance" = some (.builtin "isinstance") := by decide +kernel
theorem b_len : bootBuiltins "len" = some (.builtin "len") := by decide +kernel
theorem b_list : bootBuiltins "list" = some (.type "list") := by decide +kernel
theorem b_range : bootBuiltins "range" = some (.type "range") := by decide +kernel
theorem b_set : bootBuiltins "set" = some (.type "set") := by decide +kernel
theorem b_sorted : bootBuiltins "sorted" = some (.builtin "sorted") := by decide +kernel
theorem b_str : bootBuiltins "str" = some (.type "str") := by decide +kernel
theorem b_tuple : bootBuiltins "tuple" = some (.type "tuple") := by decide +kernel
theorem b_zip : bootBuiltins "zip" = some (.type "zip") := by decide +kernel
structure Cs (mg : Str → Option Value) : Prop where
  MOST_ACTIONS : ∃ t, mg "MOST_ACTIONS" = some (.int 24 t)
  MOST_LABEL : ∃ t, mg "MOST_LABEL" = some (.int 5 t)
  MOST_PLACES : ∃ t, mg "MOST_PLACES" = some (.int 4 t)
  MOST_STATES : ∃ t, mg "MOST_STATES" = some (.int 5 t)
section
variable {P : Program} {w : World} {K : PySem.W.Frag} {mg : Str → Option Value} {base : Heap} {ca : Cn}
abbrev s_is_action : Stmt := top 8
theorem sc_is_action : FnScope ["sizes", "action", "label", "moves", "places", "place", "_", "before", "after"] ["sizes", "action"] (defScope s_is_action) := ⟨rfl, rfl, rfl, by decide +kernel, rfl, by decide +kernel, by decide +kernel⟩
noncomputable def S_is_action : ST := (sSeq (sA (eVar 1) (tTup (tCons (tN 2) (tCons (tN 3) tNil))))
  (sSeq (sSet 4 (ed (eComp (iSeq (eVar 3)) (tTup (tCons (tN 5) (tCons (tN 6) (tCons (tN 6) tNil)))) bYes (eVar 5) [5, 6])))
  (sSeq (sIf (bOr (bNot (eTB (eCh fLe fLe (eC (.int 0)) (eVar 2) (eC (.int 5))))) (bOr (bNot (eT (eVar 4))) (eTB (e2 fNe (ed (eA fSSet (aCons (eVar 4) aNil))) (eVar 4))))) (sRet (ev (eC (.bl false)))) sPass)
  (sSeq (sFor (iSeq (eVar 3)) (tTup (tCons (tN 5) (tCons (tN 7) (tCons (tN 8) tNil)))) (sIf (bOr (bNot (eTB (eCh fLe fLt (eC (.int 0)) (eVar 5) (ed (eA fLen (aCons (eVar 0) aNil)))))) (bOr (bNot (eTB (eCh fLe fLt (eC (.int 0)) (eVar 7) (ed (e2 fIx (eVar 0) (eVar 5)))))) (bNot (eTB (eCh fLe fLt (eC (.int 0)) (eVar 8) (ed (e2 fIx (eVar 0) (eVar 5)))))))) (sRet (ev (eC (.bl false)))) sPass) [5, 7, 8])
  (sRet (ev (eC (.bl true))))))))
noncomputable def B_is_action : BD := body 9 S_is_action
theorem ok_is_action {f_ : Addr} {fd_ : FuncData} (F0 : Fun K "is_action" "is_action" s_is_action f_ fd_) (bt : Bt mg) (cs : Cs mg) :
    FnOk P w K mg base (L2.CX P w) 1 f_ fd_ ["sizes", "action"] (spB ca 2 B_is_action) := by
  have N : (["sizes", "action", "label", "moves", "places", "place", "_", "before", "after"] : List Str).Nodup := sc_is_action.nd
  obtain ⟨_, c_MOST_LABEL⟩ := cs.MOST_LABEL
  refine def_ok F0 sc_is_action fun cdv A outer s H E hr => ?_
  have hu65 : (cxOf (L2.CX P w) P w K mg base ["sizes", "action", "label", "moves", "places", "place", "_", "before", "after"] "is_action" (defScope s_is_action) f_ cdv A outer s H E).A.units + 65 < cLine := by have := hr.un; show (A.deeper _).units + 65 < cLine; omega
  have hu64 : (cxOf (L2.CX P w) P w K mg base ["sizes", "action", "label", "moves", "places", "place", "_", "before", "after"] "is_action" (defScope s_is_action) f_ cdv A outer s H E).A.units + 64 < cLine := by omega
  have hu1 : (cxOf (L2.CX P w) P w K mg base ["sizes", "action", "label", "moves", "places", "place", "_", "before", "after"] "is_action" (defScope s_is_action) f_ cdv A outer s H E).A.units + 1 < cLine := by omega
  have tk : Takes (cxOf (L2.CX P w) P w K mg base ["sizes", "action", "label", "moves", "places", "place", "_", "before", "after"] "is_action" (defScope s_is_action) f_ cdv A outer s H E) (fun cls d _ H' => E cls d H') := takes_of rfl rfl rfl rfl
  unfold S_is_action
  exact (sss_cons (ss_asg (sd_var (pv 1)) (sg_tup rfl (sgs_cons (sg_name (pg_name (i := 2) N rfl (by first | exact Or.inl rfl | exact Or.inr rfl))) (sgs_cons (sg_name (pg_name (i := 3) N rfl (by first | exact Or.inl rfl | exact Or.inr rfl))) sgs_nil rfl) rfl) (len_cons (len_cons len_nil)) rfl rfl) rfl rfl rfl)
    (sss_cons (ss_setLc (own := [(("place" : Str), 5), (("_" : Str), 6)]) rfl N rfl rfl (sw_true rfl rfl rfl (by decide +kernel)) (si_seq (sd_var (pv 3))) (blkOk_by (by rfl)) (fun _ _ _ _ _ => by exact (sgw_tup rfl (sgws_cons (sgw_name (pg_name (i := 5) N rfl (by first | exact Or.inl rfl | exact Or.inr rfl)) (by decide)) (sgws_cons (sgw_name (pg_name (i := 6) N rfl (by first | exact Or.inl rfl | exact Or.inr rfl)) (by decide)) (sgws_cons (sgw_name (pg_name (i := 6) N rfl (by first | exact Or.inl rfl | exact Or.inr rfl)) (by decide)) sgws_nil rfl) rfl) rfl) (len_cons (len_cons (len_cons len_nil))) rfl rfl)) (fun _ _ _ _ _ => by exact sts_nil) (fun _ _ _ _ _ => by exact (sd_var (pv 5))) (fun _ => rfl))
    (sss_cons (ss_if (sb_w (sw_or (sb_not (sb_ch op_le op_le lk_le lk_le sd_int (sd_var (pv 2)) (sd_glob (v := .int 5) (pe_glob rfl c_MOST_LABEL ⟨_, rfl⟩) (fun _ _ => .int _)) (by with_unfolding_all rfl))) (sw_or (sb_not (sb_t (sd_var (pv 4)) (fun _ => rfl))) (sw_or1 (sb_cmp (op_neD hu64) lk_ne (SD.of (se_sset rfl rfl bt.sorted b_sorted rfl bt.set b_set (sa_cons (sd_var (pv 4)) sa_nil rfl) rfl rfl rfl rfl)) (sd_var (pv 4)) (nomark _)))))) (sss_one (ss_ret (SE.of sd_bl))) sss_nil)
    (sss_cons (ss_for [5, 7, 8] (passes_of rfl) rfl (si_seq (sd_var (pv 3))) (sg_tup rfl (sgs_cons (sg_name (pg_name (i := 5) N rfl (by first | exact Or.inl rfl | exact Or.inr rfl))) (sgs_cons (sg_name (pg_name (i := 7) N rfl (by first | exact Or.inl rfl | exact Or.inr rfl))) (sgs_cons (sg_name (pg_name (i := 8) N rfl (by first | exact Or.inl rfl | exact Or.inr rfl))) sgs_nil rfl) rfl) rfl) (len_cons (len_cons (len_cons len_nil))) rfl rfl) (sss_one (ss_if (sb_w (sw_or (sb_not (sb_ch op_le op_lt lk_le lk_lt sd_int (sd_var (pv 5)) (SD.of (se_b (pe_callB cr_len rfl bt.len b_len (sa_cons (sd_var (pv 0)) sa_nil rfl)) lk_len)) (by with_unfolding_all rfl))) (sw_or (sb_not (sb_ch op_le op_lt lk_le lk_lt sd_int (sd_var (pv 7)) (SD.of (se_ix hu1 (sd_var (pv 0)) (sd_var (pv 5)) (fun _ _ => rfl))) (by with_unfolding_all rfl))) (sw_or1 (sb_not (sb_ch op_le op_lt lk_le lk_lt sd_int (sd_var (pv 8)) (SD.of (se_ix hu1 (sd_var (pv 0)) (sd_var (pv 5)) (fun _ _ => rfl))) (by with_unfolding_all rfl))))))) (sss_one (ss_ret (SE.of sd_bl))) sss_nil)) (fun _ => rfl))
    (sss_one (ss_ret (SE.of sd_bl)))))))
abbrev s_places_of : Stmt := top 10
theorem sc_places_of : FnScope ["system", "action", "place", "_"] ["system", "action"] (defScope s_places_of) := ⟨rfl, rfl, rfl, by decide +kernel, rfl, by decide +kernel, by decide +kernel⟩
noncomputable def S_places_of : ST := (sRet (eComp (iSeq (ed (e2 fIx (ed (e2 fIx (ed (e1 (fFld [0] 2) (eVar 0))) (eVar 1))) (eC (.int 1))))) (tTup (tCons (tN 2) (tCons (tN 3) (tCons (tN 3) tNil)))) bYes (eVar 2) [2, 3]))
noncomputable def B_places_of : BD := body 4 S_places_of
theorem ok_places_of {f_ : Addr} {fd_ : FuncData} (F0 : Fun K "places_of" "places_of" s_places_of f_ fd_) (C_System : ClF ca K 0 ["sizes", "starts", "actions"]) :
    FnOk P w K mg base (L2.CX P w) 1 f_ fd_ ["system", "action"] (spB ca 2 B_places_of) := by
  have N : (["system", "action", "place", "_"] : List Str).Nodup := sc_places_of.nd
  refine def_ok F0 sc_places_of fun cdv A outer s H E hr => ?_
  have hu65 : (cxOf (L2.CX P w) P w K mg base ["system", "action", "place", "_"] "places_of" (defScope s_places_of) f_ cdv A outer s H E).A.units + 65 < cLine := by have := hr.un; show (A.deeper _).units + 65 < cLine; omega
  have hu64 : (cxOf (L2.CX P w) P w K mg base ["system", "action", "place", "_"] "places_of" (defScope s_places_of) f_ cdv A outer s H E).A.units + 64 < cLine := by omega
  have hu1 : (cxOf (L2.CX P w) P w K mg base ["system", "action", "place", "_"] "places_of" (defScope s_places_of) f_ cdv A outer s H E).A.units + 1 < cLine := by omega
  have tk : Takes (cxOf (L2.CX P w) P w K mg base ["system", "action", "place", "_"] "places_of" (defScope s_places_of) f_ cdv A outer s H E) (fun cls d _ H' => E cls d H') := takes_of rfl rfl rfl rfl
  unfold S_places_of
  exact (sss_one (ss_ret (se_lc (own := [(("place" : Str), 2), (("_" : Str), 3)]) rfl N (si_seq (SD.of (se_ix hu1 (SD.of (se_ix hu1 (SD.of (se_fld (sd_var (pv 0)) rfl (C_System.at (i := 2) (by decide +kernel) rfl))) (sd_var (pv 1)) (fun _ _ => rfl))) sd_int (fun _ _ => rfl)))) (blkOk_by (by rfl)) (fun _ _ _ _ _ => by exact (sgw_tup rfl (sgws_cons (sgw_name (pg_name (i := 2) N rfl (by first | exact Or.inl rfl | exact Or.inr rfl)) (by decide)) (sgws_cons (sgw_name (pg_name (i := 3) N rfl (by first | exact Or.inl rfl | exact Or.inr rfl)) (by decide)) (sgws_cons (sgw_name (pg_name (i := 3) N rfl (by first | exact Or.inl rfl | exact Or.inr rfl)) (by decide)) sgws_nil rfl) rfl) rfl) (len_cons (len_cons (len_cons len_nil))) rfl rfl)) (fun _ _ _ _ _ => by exact sts_nil) (fun _ _ _ _ _ => by exact (sd_var (pv 2))) (fun _ => rfl))))
abbrev s_possible : Stmt := top 12
theorem sc_possible : FnScope ["system", "states", "found", "action", "_", "moves", "place", "before"] ["system", "states"] (defScope s_possible) := ⟨rfl, rfl, rfl, by decide +kernel, rfl, by decide +kernel, by decide +kernel⟩
noncomputable def S_possible : ST := (sSeq (sSet 2 (eAl (eLst aNil)))
  (sSeq (sFor (iEnA (aCons (ed (e1 (fFld [0] 2) (eVar 0))) aNil)) (tTup (tCons (tN 3) (tCons (tTup (tCons (tN 4) (tCons (tN 5) tNil))) tNil))) (sIf (eT (ed (eA fAll (aCons (ed (eComp (iSeq (eVar 5)) (tTup (tCons (tN 6) (tCons (tN 7) (tCons (tN 4) tNil)))) bYes (ed (e2 fEq (ed (e2 fIx (eVar 1) (eVar 6))) (eVar 7))) [6, 7, 4])) aNil)))) (sX (ed (eM "list" fAppend (eVar 2) (aCons (eVar 3) aNil)))) sPass) [3, 4, 5])
  (sRet (ev (eVar 2)))))
noncomputable def B_possible : BD := body 8 S_possible
theorem ok_possible {f_ : Addr} {fd_ : FuncData} (F0 : Fun K "possible" "possible" s_possible f_ fd_) (bt : Bt mg) (C_System : ClF ca K 0 ["sizes", "starts", "actions"]) :
    FnOk P w K mg base (L2.CX P w) 1 f_ fd_ ["system", "states"] (spB ca 2 B_possible) := by
  have N : (["system", "states", "found", "action", "_", "moves", "place", "before"] : List Str).Nodup := sc_possible.nd
  refine def_ok F0 sc_possible fun cdv A outer s H E hr => ?_
  have hu65 : (cxOf (L2.CX P w) P w K mg base ["system", "states", "found", "action", "_", "moves", "place", "before"] "possible" (defScope s_possible) f_ cdv A outer s H E).A.units + 65 < cLine := by have := hr.un; show (A.deeper _).units + 65 < cLine; omega
  have hu64 : (cxOf (L2.CX P w) P w K mg base ["system", "states", "found", "action", "_", "moves", "place", "before"] "possible" (defScope s_possible) f_ cdv A outer s H E).A.units + 64 < cLine := by omega
  have hu1 : (cxOf (L2.CX P w) P w K mg base ["system", "states", "found", "action", "_", "moves", "place", "before"] "possible" (defScope s_possible) f_ cdv A outer s H E).A.units + 1 < cLine := by omega
  have tk : Takes (cxOf (L2.CX P w) P w K mg base ["system", "states", "found", "action", "_", "moves", "place", "before"] "possible" (defScope s_possible) f_ cdv A outer s H E) (fun cls d _ H' => E cls d H') := takes_of rfl rfl rfl rfl
  unfold S_possible
  exact (sss_cons (ss_set N rfl (by first | exact Or.inl rfl | exact Or.inr rfl) (sd_al (se_lst sa_nil)) rfl (by first | exact Or.inl rfl | exact Or.inr rfl))
    (sss_cons (ss_for [3, 4, 5] (passes_of rfl) rfl (si_enA (pi_enumA rfl bt.enumerate (sa_cons (SD.of (se_fld (sd_var (pv 0)) rfl (C_System.at (i := 2) (by decide +kernel) rfl))) sa_nil rfl))) (sg_tup rfl (sgs_cons (sg_name (pg_name (i := 3) N rfl (by first | exact Or.inl rfl | exact Or.inr rfl))) (sgs_cons (sg_tup rfl (sgs_cons (sg_name (pg_name (i := 4) N rfl (by first | exact Or.inl rfl | exact Or.inr rfl))) (sgs_cons (sg_name (pg_name (i := 5) N rfl (by first | exact Or.inl rfl | exact Or.inr rfl))) sgs_nil rfl) rfl) (len_cons (len_cons len_nil)) rfl rfl) sgs_nil rfl) rfl) (len_cons (len_cons len_nil)) rfl rfl) (sss_one (ss_if (sb_t (SD.of (se_b (pe_callB (cr_all rfl) rfl bt.all b_all (sa_cons (SD.of (se_lc (own := [(("place" : Str), 6), (("before" : Str), 7), (("_" : Str), 4)]) rfl N (si_seq (sd_var (pv 5))) (blkOk_by (by rfl)) (fun _ _ _ _ _ => by exact (sgw_tup rfl (sgws_cons (sgw_name (pg_name (i := 6) N rfl (by first | exact Or.inl rfl | exact Or.inr rfl)) (by decide)) (sgws_cons (sgw_name (pg_name (i := 7) N rfl (by first | exact Or.inl rfl | exact Or.inr rfl)) (by decide)) (sgws_cons (sgw_name (pg_name (i := 4) N rfl (by first | exact Or.inl rfl | exact Or.inr rfl)) (by decide)) sgws_nil rfl) rfl) rfl) (len_cons (len_cons (len_cons len_nil))) rfl rfl)) (fun _ _ _ _ _ => by exact sts_nil) (fun _ _ _ _ _ => by exact (SD.of (se_cmp (op_eqD hu64) lk_eq (SD.of (se_ix hu1 (sd_var (pv 1)) (sd_var (pv 6)) (fun _ _ => rfl))) (sd_var (pv 7)) (nomark _)))) (fun _ => rfl))) sa_nil rfl)) lk_all)) (fun _ => rfl)) (sss_one (ss_expr (SD.of (se_m (pe_bm PySem.F.plainAttrs_list PySem.F.slot_list_append PySem.F.type_list_append mt_append (sd_var (pv 2)) (sa_cons (sd_var (pv 3)) sa_nil rfl)) lk_append)) rfl)) sss_nil)) (fun _ => rfl))
    (sss_one (ss_ret (SE.of (sd_var (pv 2)))))))
abbrev s_moved : Stmt := top 13
theorem sc_moved : FnScope ["system", "states", "action", "found", "place", "_", "after"] ["system", "states", "action"] (defScope s_moved) := ⟨rfl, rfl, rfl, by decide +kernel, rfl, by decide +kernel, by decide +kernel⟩
noncomputable def S_moved : ST := (sSeq (sSet 3 (eAl (eA fList (aCons (eVar 1) aNil))))
  (sSeq (sFor (iSeq (ed (e2 fIx (ed (e2 fIx (ed (e1 (fFld [0] 2) (eVar 0))) (eVar 2))) (eC (.int 1))))) (tTup (tCons (tN 4) (tCons (tN 5) (tCons (tN 6) tNil)))) (sPut (eVar 3) (eVar 4) (eVar 6)) [4, 5, 6])
  (sRet (eA fTuple (aCons (eVar 3) aNil)))))
noncomputable def B_moved : BD := body 7 S_moved
theorem ok_moved {f_ : Addr} {fd_ : FuncData} (F0 : Fun K "moved" "moved" s_moved f_ fd_) (bt : Bt mg) (C_System : ClF ca K 0 ["sizes", "starts", "actions"]) :
    FnOk P w K mg base (L2.CX P w) 1 f_ fd_ ["system", "states", "action"] (spB ca 3 B_moved) := by
  have N : (["system", "states", "action", "found", "place", "_", "after"] : List Str).Nodup := sc_moved.nd
  refine def_ok F0 sc_moved fun cdv A outer s H E hr => ?_
  have hu65 : (cxOf (L2.CX P w) P w K mg base ["system", "states", "action", "found", "place", "_", "after"] "moved" (defScope s_moved) f_ cdv A outer s H E).A.units + 65 < cLine := by have := hr.un; show (A.deeper _).units + 65 < cLine; omega
  have hu64 : (cxOf (L2.CX P w) P w K mg base ["system", "states", "action", "found", "place", "_", "after"] "moved" (defScope s_moved) f_ cdv A outer s H E).A.units + 64 < cLine := by omega
  have hu1 : (cxOf (L2.CX P w) P w K mg base ["system", "states", "action", "found", "place", "_", "after"] "moved" (defScope s_moved) f_ cdv A outer s H E).A.units + 1 < cLine := by omega
  have tk : Takes (cxOf (L2.CX P w) P w K mg base ["system", "states", "action", "found", "place", "_", "after"] "moved" (defScope s_moved) f_ cdv A outer s H E) (fun cls d _ H' => E cls d H') := takes_of rfl rfl rfl rfl
  unfold S_moved
  exact (sss_cons (ss_set N rfl (by first | exact Or.inl rfl | exact Or.inr rfl) (sd_al (se_b (pe_callTy call_list_of rfl bt.list b_list (sa_cons (sd_var (pv 1)) sa_nil rfl)) lk_list)) rfl (by first | exact Or.inl rfl | exact Or.inr rfl))
    (sss_cons (ss_for [4, 5, 6] (passes_of rfl) rfl (si_seq (SD.of (se_ix hu1 (SD.of (se_ix hu1 (SD.of (se_fld (sd_var (pv 0)) rfl (C_System.at (i := 2) (by decide +kernel) rfl))) (sd_var (pv 2)) (fun _ _ => rfl))) sd_int (fun _ _ => rfl)))) (sg_tup rfl (sgs_cons (sg_name (pg_name (i := 4) N rfl (by first | exact Or.inl rfl | exact Or.inr rfl))) (sgs_cons (sg_name (pg_name (i := 5) N rfl (by first | exact Or.inl rfl | exact Or.inr rfl))) (sgs_cons (sg_name (pg_name (i := 6) N rfl (by first | exact Or.inl rfl | exact Or.inr rfl))) sgs_nil rfl) rfl) rfl) (len_cons (len_cons (len_cons len_nil))) rfl rfl) (sss_one (ss_put hu1 (sd_var (pv 3)) (sd_var (pv 4)) (sd_var (pv 6)) (fun _ => rfl) rfl rfl rfl)) (fun _ => rfl))
    (sss_one (ss_ret (se_b (pe_callTy call_tuple_of rfl bt.tuple b_tuple (sa_cons (sd_var (pv 3)) sa_nil rfl)) lk_tuple)))))
abbrev s__law_draws : Stmt := top 20
theorem sc__law_draws : FnScope ["script", "count", "cells", "found", "mixed", "k", "j", "cell", "again"] ["script", "count"] (defScope s__law_draws) := ⟨rfl, rfl, rfl, by decide +kernel, rfl, by decide +kernel, by decide +kernel⟩
noncomputable def S__law_draws : ST := (sSeq (sSet 2 (eAl (eA fListS (aCons (eVar 0) aNil))))
  (sSeq (sIf (eTB (e2 fEq (ed (eA fLen (aCons (eVar 2) aNil))) (eC (.int 0)))) (sSet 2 (eAl (eLst (aCons (eC (.int 7)) aNil)))) sPass)
  (sSeq (sSet 3 (eAl (eLst aNil)))
  (sSeq (sSet 4 (eC (.int 12345)))
  (sSeq (sFor (iR1 (aCons (eVar 1) aNil)) (tN 5) (sSeq (sSet 6 (ed (e2 fMod (eVar 5) (ed (eA fLen (aCons (eVar 2) aNil))))))
  (sSeq (sSet 7 (ed (e2 fIx (eVar 2) (eVar 6))))
  (sSeq (sSet 4 (ed (e2 fMod (ed (eA fInt (aCons (ed (e2 fAdd (ed (e2 fAdd (ed (e2 fAdd (ed (e2 fMulA (eVar 4) (eC (.int 48271)))) (ed (e2 fMulA (ed (e2 fMod (ed (eA fInt (aCons (eVar 7) aNil))) (eC (.int 1000003)))) (eC (.int 69621)))))) (ed (e2 fMulA (eVar 5) (eC (.int 7919)))))) (eC (.int 11)))) aNil))) (eC (.int 2147483647)))))
  (sSeq (sSet 8 (ed (e2 fMod (ed (eA fInt (aCons (ed (e2 fAdd (ed (e2 fAdd (ed (e2 fMulA (eVar 4) (eVar 4))) (ed (e2 fMulA (eC (.int 31)) (eVar 4))))) (eVar 5))) aNil))) (eC (.int 1000003)))))
  (sIf (eTB (e2 fGe (eVar 7) (ed (e2 fPow (eC (.int 10)) (eC (.int 18)))))) (sSeq (sX (ed (eM "list" fAppend (eVar 3) (aCons (ed (e2 fMod (ed (eA fInt (aCons (eVar 7) aNil))) (eC (.int 1000)))) aNil))))
  (sPut (eVar 2) (eVar 6) (ed (e2 fDiv (eVar 7) (eC (.int 1000)))))) (sX (ed (eM "list" fAppend (eVar 3) (aCons (ed (e2 fMod (ed (eA fInt (aCons (eVar 8) aNil))) (eC (.int 1000)))) aNil))))))))) [5, 6, 7, 8])
  (sSeq (sX (ed (eM "list" fReverse (eVar 3) aNil)))
  (sRet (ev (eVar 3)))))))))
noncomputable def B__law_draws : BD := body 9 S__law_draws
theorem ok__law_draws {f_ : Addr} {fd_ : FuncData} (F0 : Fun K "_law_draws" "_law_draws" s__law_draws f_ fd_) (bt : Bt mg) (hro : ∀ a ns H, ca.ro a ns → SqL K H a (ns.map V.int)) :
    FnOk P w K mg base (L2.CX P w) 1 f_ fd_ ["script", "count"] (spB ca 2 B__law_draws) := by
  have N : (["script", "count", "cells", "found", "mixed", "k", "j", "cell", "again"] : List Str).Nodup := sc__law_draws.nd
  refine def_ok F0 sc__law_draws fun cdv A outer s H E hr => ?_
  have hu65 : (cxOf (L2.CX P w) P w K mg base ["script", "count", "cells", "found", "mixed", "k", "j", "cell", "again"] "_law_draws" (defScope s__law_draws) f_ cdv A outer s H E).A.units + 65 < cLine := by have := hr.un; show (A.deeper _).units + 65 < cLine; omega
  have hu64 : (cxOf (L2.CX P w) P w K mg base ["script", "count", "cells", "found", "mixed", "k", "j", "cell", "again"] "_law_draws" (defScope s__law_draws) f_ cdv A outer s H E).A.units + 64 < cLine := by omega
  have hu1 : (cxOf (L2.CX P w) P w K mg base ["script", "count", "cells", "found", "mixed", "k", "j", "cell", "again"] "_law_draws" (defScope s__law_draws) f_ cdv A outer s H E).A.units + 1 < cLine := by omega
  have tk : Takes (cxOf (L2.CX P w) P w K mg base ["script", "count", "cells", "found", "mixed", "k", "j", "cell", "again"] "_law_draws" (defScope s__law_draws) f_ cdv A outer s H E) (fun cls d _ H' => E cls d H') := takes_of rfl rfl rfl rfl
  unfold S__law_draws
  exact (sss_cons (ss_set N rfl (by first | exact Or.inl rfl | exact Or.inr rfl) (sd_al (se_b (pe_callTy call_list_of rfl bt.list b_list (sa_cons (sd_var (pv 0)) sa_nil rfl)) (lk_listS hro))) rfl (by first | exact Or.inl rfl | exact Or.inr rfl))
    (sss_cons (ss_if (sb_cmp (op_eqD hu64) lk_eq (SD.of (se_b (pe_callB cr_len rfl bt.len b_len (sa_cons (sd_var (pv 2)) sa_nil rfl)) lk_len)) sd_int (nomark _)) (sss_one (ss_set N rfl (by first | exact Or.inl rfl | exact Or.inr rfl) (sd_al (se_lst (sa_cons sd_int sa_nil rfl))) rfl (by first | exact Or.inl rfl | exact Or.inr rfl))) sss_nil)
    (sss_cons (ss_set N rfl (by first | exact Or.inl rfl | exact Or.inr rfl) (sd_al (se_lst sa_nil)) rfl (by first | exact Or.inl rfl | exact Or.inr rfl))
    (sss_cons (ss_set N rfl (by first | exact Or.inl rfl | exact Or.inr rfl) sd_int rfl (by first | exact Or.inl rfl | exact Or.inr rfl))
    (sss_cons (ss_for [5, 6, 7, 8] (passes_of rfl) rfl (si_r1 (pi_range1 rfl bt.range (sa_cons (sd_var (pv 1)) sa_nil rfl))) (sg_name (pg_name (i := 5) N rfl (by first | exact Or.inl rfl | exact Or.inr rfl))) (sss_cons (ss_set N rfl (by first | exact Or.inl rfl | exact Or.inr rfl) (SD.of (se_op op_mod lk_mod (sd_var (pv 5)) (SD.of (se_b (pe_callB cr_len rfl bt.len b_len (sa_cons (sd_var (pv 2)) sa_nil rfl)) lk_len)))) rfl (by first | exact Or.inl rfl | exact Or.inr rfl))
    (sss_cons (ss_set N rfl (by first | exact Or.inl rfl | exact Or.inr rfl) (SD.of (se_ix hu1 (sd_var (pv 2)) (sd_var (pv 6)) (fun _ _ => rfl))) rfl (by first | exact Or.inl rfl | exact Or.inr rfl))
    (sss_cons (ss_set N rfl (by first | exact Or.inl rfl | exact Or.inr rfl) (SD.of (se_op op_mod lk_mod (SD.of (se_b (pe_callTy call_int1 rfl bt.int b_int (sa_cons (SD.of (se_op op_addA lk_add (SD.of (se_op op_addA lk_add (SD.of (se_op op_addA lk_add (SD.of (se_op op_mulA lk_mulA (sd_var (pv 4)) sd_int)) (SD.of (se_op op_mulA lk_mulA (SD.of (se_op op_mod lk_mod (SD.of (se_b (pe_callTy call_int1 rfl bt.int b_int (sa_cons (sd_var (pv 7)) sa_nil rfl)) lk_int)) sd_int)) sd_int)))) (SD.of (se_op op_mulA lk_mulA (sd_var (pv 5)) sd_int)))) sd_int)) sa_nil rfl)) lk_int)) sd_int)) rfl (by first | exact Or.inl rfl | exact Or.inr rfl))
    (sss_cons (ss_set N rfl (by first | exact Or.inl rfl | exact Or.inr rfl) (SD.of (se_op op_mod lk_mod (SD.of (se_b (pe_callTy call_int1 rfl bt.int b_int (sa_cons (SD.of (se_op op_addA lk_add (SD.of (se_op op_addA lk_add (SD.of (se_op op_mulA lk_mulA (sd_var (pv 4)) (sd_var (pv 4)))) (SD.of (se_op op_mulA lk_mulA sd_int (sd_var (pv 4)))))) (sd_var (pv 5)))) sa_nil rfl)) lk_int)) sd_int)) rfl (by first | exact Or.inl rfl | exact Or.inr rfl))
    (sss_one (ss_if (sb_cmp op_ge lk_ge (sd_var (pv 7)) (SD.of (se_op op_pow lk_pow sd_int sd_int)) (nomark _)) (sss_cons (ss_expr (SD.of (se_m (pe_bm PySem.F.plainAttrs_list PySem.F.slot_list_append PySem.F.type_list_append mt_append (sd_var (pv 3)) (sa_cons (SD.of (se_op op_mod lk_mod (SD.of (se_b (pe_callTy call_int1 rfl bt.int b_int (sa_cons (sd_var (pv 7)) sa_nil rfl)) lk_int)) sd_int)) sa_nil rfl)) lk_append)) rfl)
    (sss_one (ss_put hu1 (sd_var (pv 2)) (sd_var (pv 6)) (SD.of (se_op op_fdiv lk_div (sd_var (pv 7)) sd_int)) (fun _ => rfl) rfl rfl rfl))) (sss_one (ss_expr (SD.of (se_m (pe_bm PySem.F.plainAttrs_list PySem.F.slot_list_append PySem.F.type_list_append mt_append (sd_var (pv 3)) (sa_cons (SD.of (se_op op_mod lk_mod (SD.of (se_b (pe_callTy call_int1 rfl bt.int b_int (sa_cons (sd_var (pv 8)) sa_nil rfl)) lk_int)) sd_int)) sa_nil rfl)) lk_append)) rfl)))))))) (fun _ => rfl))
    (sss_cons (ss_expr (SD.of (se_m0 (pe_bm0 PySem.F.plainAttrs_list PySem.F.slot_list_reverse PySem.F.type_list_reverse mt_reverse (sd_var (pv 3))) lk_reverse)) rfl)
    (sss_one (ss_ret (SE.of (sd_var (pv 3)))))))))))
abbrev s__law_take : Stmt := top 21
theorem sc__law_take : FnScope ["draws", "limit"] ["draws", "limit"] (defScope s__law_take) := ⟨rfl, rfl, rfl, by decide +kernel, rfl, by decide +kernel, by decide +kernel⟩
noncomputable def S__law_take : ST := (sSeq (sIf (eTB (e2 fEq (ed (eA fLen (aCons (eVar 0) aNil))) (eC (.int 0)))) (sRet (ev (eC (.int 0)))) sPass)
  (sRet (e2 fMod (ed (eA fInt (aCons (ed (eM "list" fPop (eVar 0) aNil)) aNil))) (eVar 1))))
noncomputable def B__law_take : BD := body 2 S__law_take
theorem ok__law_take {f_ : Addr} {fd_ : FuncData} (F0 : Fun K "_law_take" "_law_take" s__law_take f_ fd_) (bt : Bt mg) :
    FnOk P w K mg base (L2.CX P w) 1 f_ fd_ ["draws", "limit"] (spB ca 2 B__law_take) := by
  have N : (["draws", "limit"] : List Str).Nodup := sc__law_take.nd
  refine def_ok F0 sc__law_take fun cdv A outer s H E hr => ?_
  have hu65 : (cxOf (L2.CX P w) P w K mg base ["draws", "limit"] "_law_take" (defScope s__law_take) f_ cdv A outer s H E).A.units + 65 < cLine := by have := hr.un; show (A.deeper _).units + 65 < cLine; omega
  have hu64 : (cxOf (L2.CX P w) P w K mg base ["draws", "limit"] "_law_take" (defScope s__law_take) f_ cdv A outer s H E).A.units + 64 < cLine := by omega
  have hu1 : (cxOf (L2.CX P w) P w K mg base ["draws", "limit"] "_law_take" (defScope s__law_take) f_ cdv A outer s H E).A.units + 1 < cLine := by omega
  have tk : Takes (cxOf (L2.CX P w) P w K mg base ["draws", "limit"] "_law_take" (defScope s__law_take) f_ cdv A outer s H E) (fun cls d _ H' => E cls d H') := takes_of rfl rfl rfl rfl
  unfold S__law_take
  exact (sss_cons (ss_if (sb_cmp (op_eqD hu64) lk_eq (SD.of (se_b (pe_callB cr_len rfl bt.len b_len (sa_cons (sd_var (pv 0)) sa_nil rfl)) lk_len)) sd_int (nomark _)) (sss_one (ss_ret (SE.of sd_int))) sss_nil)
    (sss_one (ss_ret (se_op op_mod lk_mod (SD.of (se_b (pe_callTy call_int1 rfl bt.int b_int (sa_cons (SD.of (se_m0 (pe_bm0 PySem.F.plainAttrs_list PySem.F.slot_list_pop PySem.F.type_list_pop mt_pop (sd_var (pv 0))) lk_pop)) sa_nil rfl)) lk_int)) (sd_var (pv 1))))))
abbrev s__law_possible : Stmt := top 24
theorem sc__law_possible : FnScope ["system", "states", "found", "k", "moves", "place", "before", "after"] ["system", "states"] (defScope s__law_possible) := ⟨rfl, rfl, rfl, by decide +kernel, rfl, by decide +kernel, by decide +kernel⟩
noncomputable def S__law_possible : ST := (sSeq (sSet 2 (eAl (eLst aNil)))
  (sSeq (sFor (iR1 (aCons (ed (eA fLen (aCons (ed (e2 fIx (eVar 0) (eC (.int 2)))) aNil))) aNil)) (tN 3) (sSeq (sSet 4 (ed (e2 fIx (ed (e2 fIx (ed (e2 fIx (eVar 0) (eC (.int 2)))) (eVar 3))) (eC (.int 1)))))
  (sIf (eTB (e2 fEq (ed (eA fLen (aCons (ed (eComp (iSeq (eVar 4)) (tTup (tCons (tN 5) (tCons (tN 6) (tCons (tN 7) tNil)))) (eTB (e2 fNe (ed (e2 fIx (eVar 1) (eVar 5))) (eVar 6))) (eC (.int 1)) [5, 6, 7])) aNil))) (eC (.int 0)))) (sX (ed (eM "list" fAppend (eVar 2) (aCons (eVar 3) aNil)))) sPass)) [3, 4])
  (sRet (ev (eVar 2)))))
noncomputable def B__law_possible : BD := body 8 S__law_possible
theorem ok__law_possible {f_ : Addr} {fd_ : FuncData} (F0 : Fun K "_law_possible" "_law_possible" s__law_possible f_ fd_) (bt : Bt mg) :
    FnOk P w K mg base (L2.CX P w) 1 f_ fd_ ["system", "states"] (spB ca 2 B__law_possible) := by
  have N : (["system", "states", "found", "k", "moves", "place", "before", "after"] : List Str).Nodup := sc__law_possible.nd
  refine def_ok F0 sc__law_possible fun cdv A outer s H E hr => ?_
  have hu65 : (cxOf (L2.CX P w) P w K mg base ["system", "states", "found", "k", "moves", "place", "before", "after"] "_law_possible" (defScope s__law_possible) f_ cdv A outer s H E).A.units + 65 < cLine := by have := hr.un; show (A.deeper _).units + 65 < cLine; omega
  have hu64 : (cxOf (L2.CX P w) P w K mg base ["system", "states", "found", "k", "moves", "place", "before", "after"] "_law_possible" (defScope s__law_possible) f_ cdv A outer s H E).A.units + 64 < cLine := by omega
  have hu1 : (cxOf (L2.CX P w) P w K mg base ["system", "states", "found", "k", "moves", "place", "before", "after"] "_law_possible" (defScope s__law_possible) f_ cdv A outer s H E).A.units + 1 < cLine := by omega
  have tk : Takes (cxOf (L2.CX P w) P w K mg base ["system", "states", "found", "k", "moves", "place", "before", "after"] "_law_possible" (defScope s__law_possible) f_ cdv A outer s H E) (fun cls d _ H' => E cls d H') := takes_of rfl rfl rfl rfl
  unfold S__law_possible
  exact (sss_cons (ss_set N rfl (by first | exact Or.inl rfl | exact Or.inr rfl) (sd_al (se_lst sa_nil)) rfl (by first | exact Or.inl rfl | exact Or.inr rfl))
    (sss_cons (ss_for [3, 4] (passes_of rfl) rfl (si_r1 (pi_range1 rfl bt.range (sa_cons (SD.of (se_b (pe_callB cr_len rfl bt.len b_len (sa_cons (SD.of (se_ix hu1 (sd_var (pv 0)) sd_int (fun _ _ => rfl))) sa_nil rfl)) lk_len)) sa_nil rfl))) (sg_name (pg_name (i := 3) N rfl (by first | exact Or.inl rfl | exact Or.inr rfl))) (sss_cons (ss_set N rfl (by first | exact Or.inl rfl | exact Or.inr rfl) (SD.of (se_ix hu1 (SD.of (se_ix hu1 (SD.of (se_ix hu1 (sd_var (pv 0)) sd_int (fun _ _ => rfl))) (sd_var (pv 3)) (fun _ _ => rfl))) sd_int (fun _ _ => rfl))) rfl (by first | exact Or.inl rfl | exact Or.inr rfl))
    (sss_one (ss_if (sb_cmp (op_eqD hu64) lk_eq (SD.of (se_b (pe_callB cr_len rfl bt.len b_len (sa_cons (SD.of (se_lc (own := [(("place" : Str), 5), (("before" : Str), 6), (("after" : Str), 7)]) rfl N (si_seq (sd_var (pv 4))) (blkOk_by (by rfl)) (fun _ _ _ _ _ => by exact (sgw_tup rfl (sgws_cons (sgw_name (pg_name (i := 5) N rfl (by first | exact Or.inl rfl | exact Or.inr rfl)) (by decide)) (sgws_cons (sgw_name (pg_name (i := 6) N rfl (by first | exact Or.inl rfl | exact Or.inr rfl)) (by decide)) (sgws_cons (sgw_name (pg_name (i := 7) N rfl (by first | exact Or.inl rfl | exact Or.inr rfl)) (by decide)) sgws_nil rfl) rfl) rfl) (len_cons (len_cons (len_cons len_nil))) rfl rfl)) (fun _ _ _ _ _ => by exact (sts_one (sb_cmp (op_neD hu64) lk_ne (SD.of (se_ix hu1 (sd_var (pv 1)) (sd_var (pv 5)) (fun _ _ => rfl))) (sd_var (pv 6)) (nomark _)))) (fun _ _ _ _ _ => by exact sd_int) (fun _ => rfl))) sa_nil rfl)) lk_len)) sd_int (nomark _)) (sss_one (ss_expr (SD.of (se_m (pe_bm PySem.F.plainAttrs_list PySem.F.slot_list_append PySem.F.type_list_append mt_append (sd_var (pv 2)) (sa_cons (sd_var (pv 3)) sa_nil rfl)) lk_append)) rfl)) sss_nil))) (fun _ => rfl))
    (sss_one (ss_ret (SE.of (sd_var (pv 2)))))))
abbrev s__law_moved : Stmt := top 25
theorem sc__law_moved : FnScope ["system", "states", "action", "row", "place", "before", "after"] ["system", "states", "action"] (defScope s__law_moved) := ⟨rfl, rfl, rfl, by decide +kernel, rfl, by decide +kernel, by decide +kernel⟩
noncomputable def S__law_moved : ST := (sSeq (sSet 3 (eAl (eA fList (aCons (eVar 1) aNil))))
  (sSeq (sFor (iSeq (ed (e2 fIx (ed (e2 fIx (ed (e2 fIx (eVar 0) (eC (.int 2)))) (eVar 2))) (eC (.int 1))))) (tTup (tCons (tN 4) (tCons (tN 5) (tCons (tN 6) tNil)))) (sPut (eVar 3) (eVar 4) (eVar 6)) [4, 5, 6])
  (sRet (eA fTuple (aCons (eVar 3) aNil)))))
noncomputable def B__law_moved : BD := body 7 S__law_moved
theorem ok__law_moved {f_ : Addr} {fd_ : FuncData} (F0 : Fun K "_law_moved" "_law_moved" s__law_moved f_ fd_) (bt : Bt mg) :
    FnOk P w K mg base (L2.CX P w) 1 f_ fd_ ["system", "states", "action"] (spB ca 3 B__law_moved) := by
  have N : (["system", "states", "action", "row", "place", "before", "after"] : List Str).Nodup := sc__law_moved.nd
  refine def_ok F0 sc__law_moved fun cdv A outer s H E hr => ?_
  have hu65 : (cxOf (L2.CX P w) P w K mg base ["system", "states", "action", "row", "place", "before", "after"] "_law_moved" (defScope s__law_moved) f_ cdv A outer s H E).A.units + 65 < cLine := by have := hr.un; show (A.deeper _).units + 65 < cLine; omega
  have hu64 : (cxOf (L2.CX P w) P w K mg base ["system", "states", "action", "row", "place", "before", "after"] "_law_moved" (defScope s__law_moved) f_ cdv A outer s H E).A.units + 64 < cLine := by omega
  have hu1 : (cxOf (L2.CX P w) P w K mg base ["system", "states", "action", "row", "place", "before", "after"] "_law_moved" (defScope s__law_moved) f_ cdv A outer s H E).A.units + 1 < cLine := by omega
  have tk : Takes (cxOf (L2.CX P w) P w K mg base ["system", "states", "action", "row", "place", "before", "after"] "_law_moved" (defScope s__law_moved) f_ cdv A outer s H E) (fun cls d _ H' => E cls d H') := takes_of rfl rfl rfl rfl
  unfold S__law_moved
  exact (sss_cons (ss_set N rfl (by first | exact Or.inl rfl | exact Or.inr rfl) (sd_al (se_b (pe_callTy call_list_of rfl bt.list b_list (sa_cons (sd_var (pv 1)) sa_nil rfl)) lk_list)) rfl (by first | exact Or.inl rfl | exact Or.inr rfl))
    (sss_cons (ss_for [4, 5, 6] (passes_of rfl) rfl (si_seq (SD.of (se_ix hu1 (SD.of (se_ix hu1 (SD.of (se_ix hu1 (sd_var (pv 0)) sd_int (fun _ _ => rfl))) (sd_var (pv 2)) (fun _ _ => rfl))) sd_int (fun _ _ => rfl)))) (sg_tup rfl (sgs_cons (sg_name (pg_name (i := 4) N rfl (by first | exact Or.inl rfl | exact Or.inr rfl))) (sgs_cons (sg_name (pg_name (i := 5) N rfl (by first | exact Or.inl rfl | exact Or.inr rfl))) (sgs_cons (sg_name (pg_name (i := 6) N rfl (by first | exact Or.inl rfl | exact Or.inr rfl))) sgs_nil rfl) rfl) rfl) (len_cons (len_cons (len_cons len_nil))) rfl rfl) (sss_one (ss_put hu1 (sd_var (pv 3)) (sd_var (pv 4)) (sd_var (pv 6)) (fun _ => rfl) rfl rfl rfl)) (fun _ => rfl))
    (sss_one (ss_ret (se_b (pe_callTy call_tuple_of rfl bt.tuple b_tuple (sa_cons (sd_var (pv 3)) sa_nil rfl)) lk_tuple)))))
abbrev s__law_places : Stmt := top 27
theorem sc__law_places : FnScope ["system", "action", "move"] ["system", "action"] (defScope s__law_places) := ⟨rfl, rfl, rfl, by decide +kernel, rfl, by decide +kernel, by decide +kernel⟩
noncomputable def S__law_places : ST := (sRet (eComp (iSeq (ed (e2 fIx (ed (e2 fIx (ed (e2 fIx (eVar 0) (eC (.int 2)))) (eVar 1))) (eC (.int 1))))) (tN 2) bYes (ed (e2 fIx (eVar 2) (eC (.int 0)))) [2]))
noncomputable def B__law_places : BD := body 3 S__law_places
theorem ok__law_places {f_ : Addr} {fd_ : FuncData} (F0 : Fun K "_law_places" "_law_places" s__law_places f_ fd_) :
    FnOk P w K mg base (L2.CX P w) 1 f_ fd_ ["system", "action"] (spB ca 2 B__law_places) := by
  have N : (["system", "action", "move"] : List Str).Nodup := sc__law_places.nd
  refine def_ok F0 sc__law_places fun cdv A outer s H E hr => ?_
  have hu65 : (cxOf (L2.CX P w) P w K mg base ["system", "action", "move"] "_law_places" (defScope s__law_places) f_ cdv A outer s H E).A.units + 65 < cLine := by have := hr.un; show (A.deeper _).units + 65 < cLine; omega
  have hu64 : (cxOf (L2.CX P w) P w K mg base ["system", "action", "move"] "_law_places" (defScope s__law_places) f_ cdv A outer s H E).A.units + 64 < cLine := by omega
  have hu1 : (cxOf (L2.CX P w) P w K mg base ["system", "action", "move"] "_law_places" (defScope s__law_places) f_ cdv A outer s H E).A.units + 1 < cLine := by omega
  have tk : Takes (cxOf (L2.CX P w) P w K mg base ["system", "action", "move"] "_law_places" (defScope s__law_places) f_ cdv A outer s H E) (fun cls d _ H' => E cls d H') := takes_of rfl rfl rfl rfl
  unfold S__law_places
  exact (sss_one (ss_ret (se_lc (own := [(("move" : Str), 2)]) rfl N (si_seq (SD.of (se_ix hu1 (SD.of (se_ix hu1 (SD.of (se_ix hu1 (sd_var (pv 0)) sd_int (fun _ _ => rfl))) (sd_var (pv 1)) (fun _ _ => rfl))) sd_int (fun _ _ => rfl)))) (blkOk_by (by rfl)) (fun _ _ _ _ _ => by exact (sgw_name (pg_name (i := 2) N rfl (by first | exact Or.inl rfl | exact Or.inr rfl)) (by decide))) (fun _ _ _ _ _ => by exact sts_nil) (fun _ _ _ _ _ => by exact (SD.of (se_ix hu1 (sd_var (pv 2)) sd_int (fun _ _ => rfl)))) (fun _ => rfl))))
abbrev s_System___init__ : Stmt := inClass (top 9) 0
theorem sc_System___init__ : FnScope ["self", "sizes", "starts", "actions", "valid", "size", "start", "action", "label", "moves", "move"] ["self", "sizes", "starts", "actions"] (defScope s_System___init__) := ⟨rfl, rfl, rfl, by decide +kernel, rfl, by decide +kernel, by decide +kernel⟩
noncomputable def S_System___init__ : ST := (sSeq (sSet 4 (vAnd (ed (eCh fLe fLe (eC (.int 1)) (ed (eA fLen (aCons (eVar 1) aNil))) (eC (.int 4)))) (vAnd (ed (e2 fEq (ed (eA fLen (aCons (eVar 2) aNil))) (ed (eA fLen (aCons (eVar 1) aNil))))) (ed (e2 fLe (ed (eA fLen (aCons (eVar 3) aNil))) (eC (.int 24)))))))
  (sSeq (sSet 4 (vAnd (eVar 4) (ed (eA fAll (aCons (ed (eComp (iSeq (eVar 1)) (tN 5) bYes (ed (eCh fLe fLe (eC (.int 1)) (eVar 5) (eC (.int 5)))) [5])) aNil)))))
  (sSeq (sSet 4 (vAnd (eVar 4) (ed (eA fAll (aCons (ed (eComp (iZp (aCons (eVar 2) (aCons (eVar 1) aNil))) (tTup (tCons (tN 6) (tCons (tN 5) tNil))) bYes (ed (eCh fLe fLt (eC (.int 0)) (eVar 6) (eVar 5))) [6, 5])) aNil)))))
  (sSeq (sIf (bOr (bNot (eT (eVar 4))) (bNot (eT (ed (eA fAll (aCons (ed (eComp (iSeq (eVar 3)) (tN 7) bYes (ed (eCall 2 B_is_action (aCons (eVar 1) (aCons (eVar 7) aNil)))) [7])) aNil)))))) (sRaise 1) sPass)
  (sSeq (sAtt [0] 0 (eVar 0) (ed (eA fTuple (aCons (eVar 1) aNil))))
  (sSeq (sAtt [0] 1 (eVar 0) (ed (eA fTuple (aCons (eVar 2) aNil))))
  (sAtt [0] 2 (eVar 0) (ed (eA fTuple (aCons (ed (eComp (iSeq (eVar 3)) (tTup (tCons (tN 8) (tCons (tN 9) tNil))) bYes (eTup (aCons (eVar 8) (aCons (ed (eA fTuple (aCons (ed (eComp (iSeq (eVar 9)) (tN 10) bYes (ed (eA fTuple (aCons (eVar 10) aNil))) [10])) aNil))) aNil))) [8, 9])) aNil))))))))))
noncomputable def B_System___init__ : BD := body 11 S_System___init__
theorem ok_System___init__ {f_ : Addr} {fd_ : FuncData} {f_is_action : Addr} {fd_is_action : FuncData} (F0 : Fun K "__init__" "System.__init__" s_System___init__ f_ fd_) (bt : Bt mg) (cs : Cs mg) (C_System : ClF ca K 0 ["sizes", "starts", "actions"]) (Ex_InvalidSystem : ExF K mg ca "InvalidSystem" 1) (D_is_action : Dg K mg "is_action" "is_action" s_is_action ["sizes", "action"] f_is_action fd_is_action) (G_is_action : FnOk P w K mg base (L2.CX P w) 1 f_is_action fd_is_action ["sizes", "action"] (spB ca 2 B_is_action)) :
    FnOk P w K mg base (L2.CX P w) 2 f_ fd_ ["self", "sizes", "starts", "actions"] (spB ca 4 B_System___init__) := by
  have N : (["self", "sizes", "starts", "actions", "valid", "size", "start", "action", "label", "moves", "move"] : List Str).Nodup := sc_System___init__.nd
  obtain ⟨_, c_MOST_ACTIONS⟩ := cs.MOST_ACTIONS
  obtain ⟨_, c_MOST_PLACES⟩ := cs.MOST_PLACES
  obtain ⟨_, c_MOST_STATES⟩ := cs.MOST_STATES
  refine def_ok F0 sc_System___init__ fun cdv A outer s H E hr => ?_
  have hu65 : (cxOf (L2.CX P w) P w K mg base ["self", "sizes", "starts", "actions", "valid", "size", "start", "action", "label", "moves", "move"] "System.__init__" (defScope s_System___init__) f_ cdv A outer s H E).A.units + 65 < cLine := by have := hr.un; show (A.deeper _).units + 65 < cLine; omega
  have hu64 : (cxOf (L2.CX P w) P w K mg base ["self", "sizes", "starts", "actions", "valid", "size", "start", "action", "label", "moves", "move"] "System.__init__" (defScope s_System___init__) f_ cdv A outer s H E).A.units + 64 < cLine := by omega
  have hu1 : (cxOf (L2.CX P w) P w K mg base ["self", "sizes", "starts", "actions", "valid", "size", "start", "action", "label", "moves", "move"] "System.__init__" (defScope s_System___init__) f_ cdv A outer s H E).A.units + 1 < cLine := by omega
  have tk : Takes (cxOf (L2.CX P w) P w K mg base ["self", "sizes", "starts", "actions", "valid", "size", "start", "action", "label", "moves", "move"] "System.__init__" (defScope s_System___init__) f_ cdv A outer s H E) (fun cls d _ H' => E cls d H') := takes_of rfl rfl rfl rfl
  unfold S_System___init__
  exact (sss_cons (ss_set N rfl (by first | exact Or.inl rfl | exact Or.inr rfl) (sd_and (SD.of (se_ch op_le op_le lk_le lk_le sd_int (SD.of (se_b (pe_callB cr_len rfl bt.len b_len (sa_cons (sd_var (pv 1)) sa_nil rfl)) lk_len)) (sd_glob (v := .int 4) (pe_glob rfl c_MOST_PLACES ⟨_, rfl⟩) (fun _ _ => .int _)) (by with_unfolding_all rfl))) (sd_and (SD.of (se_cmp (op_eqD hu64) lk_eq (SD.of (se_b (pe_callB cr_len rfl bt.len b_len (sa_cons (sd_var (pv 2)) sa_nil rfl)) lk_len)) (SD.of (se_b (pe_callB cr_len rfl bt.len b_len (sa_cons (sd_var (pv 1)) sa_nil rfl)) lk_len)) (nomark _))) (sd_one (SD.of (se_cmp op_le lk_le (SD.of (se_b (pe_callB cr_len rfl bt.len b_len (sa_cons (sd_var (pv 3)) sa_nil rfl)) lk_len)) (sd_glob (v := .int 24) (pe_glob rfl c_MOST_ACTIONS ⟨_, rfl⟩) (fun _ _ => .int _)) (nomark _)))))) rfl (by first | exact Or.inl rfl | exact Or.inr rfl))
    (sss_cons (ss_set N rfl (by first | exact Or.inl rfl | exact Or.inr rfl) (sd_and (sd_var (pv 4)) (sd_one (SD.of (se_b (pe_callB (cr_all rfl) rfl bt.all b_all (sa_cons (SD.of (se_lc (own := [(("size" : Str), 5)]) rfl N (si_seq (sd_var (pv 1))) (blkOk_by (by rfl)) (fun _ _ _ _ _ => by exact (sgw_name (pg_name (i := 5) N rfl (by first | exact Or.inl rfl | exact Or.inr rfl)) (by decide))) (fun _ _ _ _ _ => by exact sts_nil) (fun _ _ _ _ _ => by exact (SD.of (se_ch op_le op_le lk_le lk_le sd_int (sd_var (pv 5)) (sd_glob (v := .int 5) (pe_glob rfl c_MOST_STATES ⟨_, rfl⟩) (fun _ _ => .int _)) (by with_unfolding_all rfl)))) (fun _ => rfl))) sa_nil rfl)) lk_all)))) rfl (by first | exact Or.inl rfl | exact Or.inr rfl))
    (sss_cons (ss_set N rfl (by first | exact Or.inl rfl | exact Or.inr rfl) (sd_and (sd_var (pv 4)) (sd_one (SD.of (se_b (pe_callB (cr_all rfl) rfl bt.all b_all (sa_cons (SD.of (se_lc (own := [(("start" : Str), 6), (("size" : Str), 5)]) rfl N (si_zp (pi_zip rfl bt.zip (sa_cons (sd_var (pv 2)) (sa_cons (sd_var (pv 1)) sa_nil rfl) rfl))) (blkOk_by (by rfl)) (fun _ _ _ _ _ => by exact (sgw_tup rfl (sgws_cons (sgw_name (pg_name (i := 6) N rfl (by first | exact Or.inl rfl | exact Or.inr rfl)) (by decide)) (sgws_cons (sgw_name (pg_name (i := 5) N rfl (by first | exact Or.inl rfl | exact Or.inr rfl)) (by decide)) sgws_nil rfl) rfl) (len_cons (len_cons len_nil)) rfl rfl)) (fun _ _ _ _ _ => by exact sts_nil) (fun _ _ _ _ _ => by exact (SD.of (se_ch op_le op_lt lk_le lk_lt sd_int (sd_var (pv 6)) (sd_var (pv 5)) (by with_unfolding_all rfl)))) (fun _ => rfl))) sa_nil rfl)) lk_all)))) rfl (by first | exact Or.inl rfl | exact Or.inr rfl))
    (sss_cons (ss_if (sb_w (sw_or (sb_not (sb_t (sd_var (pv 4)) (fun _ => rfl))) (sw_or1 (sb_not (sb_t (SD.of (se_b (pe_callB (cr_all rfl) rfl bt.all b_all (sa_cons (SD.of (se_lc (own := [(("action" : Str), 7)]) rfl N (si_seq (sd_var (pv 3))) (blkOk_by (by rfl)) (fun _ _ _ _ _ => by exact (sgw_name (pg_name (i := 7) N rfl (by first | exact Or.inl rfl | exact Or.inr rfl)) (by decide))) (fun _ _ _ _ _ => by exact sts_nil) (fun _ _ _ _ _ => by exact (SD.of (se_callN rfl G_is_action (hr.mono (by decide)) (by rfl) D_is_action.m D_is_action.F.kp D_is_action.b tk0 (sa_cons (sd_var (pv 1)) (sa_cons (sd_var (pv 7)) sa_nil rfl) rfl) (by decide) rfl rfl))) (fun _ => rfl))) sa_nil rfl)) lk_all)) (fun _ => rfl)))))) (sss_one (ss_raise (c := 1) rfl tk (pmk_own PySem.F.excBase_ValueError Ex_InvalidSystem.ex Ex_InvalidSystem.g Ex_InvalidSystem.kp (raises_own Ex_InvalidSystem.b Ex_InvalidSystem.t) rfl))) sss_nil)
    (sss_cons (ss_att (sd_var (pv 0)) (SD.of (se_b (pe_callTy call_tuple_of rfl bt.tuple b_tuple (sa_cons (sd_var (pv 1)) sa_nil rfl)) lk_tuple)) (C_System.at (i := 0) (by decide +kernel) rfl) rfl)
    (sss_cons (ss_att (sd_var (pv 0)) (SD.of (se_b (pe_callTy call_tuple_of rfl bt.tuple b_tuple (sa_cons (sd_var (pv 2)) sa_nil rfl)) lk_tuple)) (C_System.at (i := 1) (by decide +kernel) rfl) rfl)
    (sss_one (ss_att (sd_var (pv 0)) (SD.of (se_b (pe_callTy call_tuple_of rfl bt.tuple b_tuple (sa_cons (SD.of (se_lc (own := [(("label" : Str), 8), (("moves" : Str), 9)]) rfl N (si_seq (sd_var (pv 3))) (blkOk_by (by rfl)) (fun _ _ _ _ _ => by exact (sgw_tup rfl (sgws_cons (sgw_name (pg_name (i := 8) N rfl (by first | exact Or.inl rfl | exact Or.inr rfl)) (by decide)) (sgws_cons (sgw_name (pg_name (i := 9) N rfl (by first | exact Or.inl rfl | exact Or.inr rfl)) (by decide)) sgws_nil rfl) rfl) (len_cons (len_cons len_nil)) rfl rfl)) (fun _ _ _ _ _ => by exact sts_nil) (fun _ _ _ _ _ => by exact (sd_tup (sa_cons (sd_var (pv 8)) (sa_cons (SD.of (se_b (pe_callTy call_tuple_of rfl bt.tuple b_tuple (sa_cons (SD.of (se_lc (own := [(("move" : Str), 10)]) rfl N (si_seq (sd_var (pv 9))) (blkOk_by (by rfl)) (fun _ _ _ _ _ => by exact (sgw_name (pg_name (i := 10) N rfl (by first | exact Or.inl rfl | exact Or.inr rfl)) (by decide))) (fun _ _ _ _ _ => by exact sts_nil) (fun _ _ _ _ _ => by exact (SD.of (se_b (pe_callTy call_tuple_of rfl bt.tuple b_tuple (sa_cons (sd_var (pv 10)) sa_nil rfl)) lk_tuple))) (fun _ => rfl))) sa_nil rfl)) lk_tuple)) sa_nil rfl) rfl))) (fun _ => rfl))) sa_nil rfl)) lk_tuple)) (C_System.at (i := 2) (by decide +kernel) rfl) rfl))))))))
abbrev s_are_apart : Stmt := top 11
theorem sc_are_apart : FnScope ["system", "first", "second", "place"] ["system", "first", "second"] (defScope s_are_apart) := ⟨rfl, rfl, rfl, by decide +kernel, rfl, by decide +kernel, by decide +kernel⟩
noncomputable def S_are_apart : ST := (sRet (e1 fNotB (ed (eA fAny (aCons (ed (eComp (iSeq (ed (eCall 2 B_places_of (aCons (eVar 0) (aCons (eVar 1) aNil))))) (tN 3) bYes (ed (e2 fIn (eVar 3) (ed (eCall 2 B_places_of (aCons (eVar 0) (aCons (eVar 2) aNil)))))) [3])) aNil)))))
noncomputable def B_are_apart : BD := body 4 S_are_apart
theorem ok_are_apart {f_ : Addr} {fd_ : FuncData} {f_places_of : Addr} {fd_places_of : FuncData} (F0 : Fun K "are_apart" "are_apart" s_are_apart f_ fd_) (bt : Bt mg) (D_places_of : Dg K mg "places_of" "places_of" s_places_of ["system", "action"] f_places_of fd_places_of) (G_places_of : FnOk P w K mg base (L2.CX P w) 1 f_places_of fd_places_of ["system", "action"] (spB ca 2 B_places_of)) :
    FnOk P w K mg base (L2.CX P w) 2 f_ fd_ ["system", "first", "second"] (spB ca 3 B_are_apart) := by
  have N : (["system", "first", "second", "place"] : List Str).Nodup := sc_are_apart.nd
  refine def_ok F0 sc_are_apart fun cdv A outer s H E hr => ?_
  have hu65 : (cxOf (L2.CX P w) P w K mg base ["system", "first", "second", "place"] "are_apart" (defScope s_are_apart) f_ cdv A outer s H E).A.units + 65 < cLine := by have := hr.un; show (A.deeper _).units + 65 < cLine; omega
  have hu64 : (cxOf (L2.CX P w) P w K mg base ["system", "first", "second", "place"] "are_apart" (defScope s_are_apart) f_ cdv A outer s H E).A.units + 64 < cLine := by omega
  have hu1 : (cxOf (L2.CX P w) P w K mg base ["system", "first", "second", "place"] "are_apart" (defScope s_are_apart) f_ cdv A outer s H E).A.units + 1 < cLine := by omega
  have tk : Takes (cxOf (L2.CX P w) P w K mg base ["system", "first", "second", "place"] "are_apart" (defScope s_are_apart) f_ cdv A outer s H E) (fun cls d _ H' => E cls d H') := takes_of rfl rfl rfl rfl
  unfold S_are_apart
  exact (sss_one (ss_ret (se_not (SD.of (se_b (pe_callB (cr_any rfl) rfl bt.any b_any (sa_cons (SD.of (se_lc (own := [(("place" : Str), 3)]) rfl N (si_seq (SD.of (se_callN rfl G_places_of (hr.mono (by decide)) (by rfl) D_places_of.m D_places_of.F.kp D_places_of.b tk (sa_cons (sd_var (pv 0)) (sa_cons (sd_var (pv 1)) sa_nil rfl) rfl) (by decide) rfl rfl))) (blkOk_by (by rfl)) (fun _ _ _ _ _ => by exact (sgw_name (pg_name (i := 3) N rfl (by first | exact Or.inl rfl | exact Or.inr rfl)) (by decide))) (fun _ _ _ _ _ => by exact sts_nil) (fun _ _ _ _ _ => by exact (SD.of (se_cmp (op_in hu65) lk_in (sd_var (pv 3)) (SD.of (se_callN rfl G_places_of (hr.mono (by decide)) (by rfl) D_places_of.m D_places_of.F.kp D_places_of.b tk0 (sa_cons (sd_var (pv 0)) (sa_cons (sd_var (pv 2)) sa_nil rfl) rfl) (by decide) rfl rfl)) rfl))) (fun _ => rfl))) sa_nil rfl)) lk_any)))))
abbrev s_arising : Stmt := top 14
theorem sc_arising : FnScope ["system", "found", "seen", "at", "action", "after"] ["system"] (defScope s_arising) := ⟨rfl, rfl, rfl, by decide +kernel, rfl, by decide +kernel, by decide +kernel⟩
noncomputable def S_arising : ST := (sSeq (sSet 1 (eAl (eLst (aCons (ed (e1 (fFld [0] 1) (eVar 0))) aNil))))
  (sSeq (sSet 2 (eAl (eDisp1 (ed (e1 (fFld [0] 1) (eVar 0))) (eC (.bl true)))))
  (sSeq (sSet 3 (eC (.int 0)))
  (sSeq (sWh (eTB (e2 fLt (eVar 3) (ed (eA fLen (aCons (eVar 1) aNil))))) (sSeq (sFor (iSeq (ed (eCall 2 B_possible (aCons (eVar 0) (aCons (ed (e2 fIx (eVar 1) (eVar 3))) aNil))))) (tN 4) (sSeq (sSet 5 (ed (eCall 3 B_moved (aCons (eVar 0) (aCons (ed (e2 fIx (eVar 1) (eVar 3))) (aCons (eVar 4) aNil))))))
  (sIf (eTB (e2 fNotIn (eVar 5) (eVar 2))) (sSeq (sPut (eVar 2) (eVar 5) (eC (.bl true)))
  (sX (ed (eM "list" fAppend (eVar 1) (aCons (eVar 5) aNil))))) sPass)) [4, 5])
  (sSet 3 (ed (e2 f1 (eVar 3) (eC (.int 1)))))) [4, 5])
  (sRet (ev (eVar 1)))))))
noncomputable def B_arising : BD := body 6 S_arising
theorem ok_arising {f_ : Addr} {fd_ : FuncData} {f_possible : Addr} {fd_possible : FuncData} {f_moved : Addr} {fd_moved : FuncData} (F0 : Fun K "arising" "arising" s_arising f_ fd_) (bt : Bt mg) (C_System : ClF ca K 0 ["sizes", "starts", "actions"]) (D_possible : Dg K mg "possible" "possible" s_possible ["system", "states"] f_possible fd_possible) (G_possible : FnOk P w K mg base (L2.CX P w) 1 f_possible fd_possible ["system", "states"] (spB ca 2 B_possible)) (D_moved : Dg K mg "moved" "moved" s_moved ["system", "states", "action"] f_moved fd_moved) (G_moved : FnOk P w K mg base (L2.CX P w) 1 f_moved fd_moved ["system", "states", "action"] (spB ca 3 B_moved)) :
    FnOk P w K mg base (L2.CX P w) 2 f_ fd_ ["system"] (spB ca 1 B_arising) := by
  have N : (["system", "found", "seen", "at", "action", "after"] : List Str).Nodup := sc_arising.nd
  refine def_ok F0 sc_arising fun cdv A outer s H E hr => ?_
  have hu65 : (cxOf (L2.CX P w) P w K mg base ["system", "found", "seen", "at", "action", "after"] "arising" (defScope s_arising) f_ cdv A outer s H E).A.units + 65 < cLine := by have := hr.un; show (A.deeper _).units + 65 < cLine; omega
  have hu64 : (cxOf (L2.CX P w) P w K mg base ["system", "found", "seen", "at", "action", "after"] "arising" (defScope s_arising) f_ cdv A outer s H E).A.units + 64 < cLine := by omega
  have hu1 : (cxOf (L2.CX P w) P w K mg base ["system", "found", "seen", "at", "action", "after"] "arising" (defScope s_arising) f_ cdv A outer s H E).A.units + 1 < cLine := by omega
  have tk : Takes (cxOf (L2.CX P w) P w K mg base ["system", "found", "seen", "at", "action", "after"] "arising" (defScope s_arising) f_ cdv A outer s H E) (fun cls d _ H' => E cls d H') := takes_of rfl rfl rfl rfl
  unfold S_arising
  exact (sss_cons (ss_set N rfl (by first | exact Or.inl rfl | exact Or.inr rfl) (sd_al (se_lst (sa_cons (SD.of (se_fld (sd_var (pv 0)) rfl (C_System.at (i := 1) (by decide +kernel) rfl))) sa_nil rfl))) rfl (by first | exact Or.inl rfl | exact Or.inr rfl))
    (sss_cons (ss_set N rfl (by first | exact Or.inl rfl | exact Or.inr rfl) (sd_al (se_disp1 hu1 (SD.of (se_fld (sd_var (pv 0)) rfl (C_System.at (i := 1) (by decide +kernel) rfl))) sd_bl)) rfl (by first | exact Or.inl rfl | exact Or.inr rfl))
    (sss_cons (ss_set N rfl (by first | exact Or.inl rfl | exact Or.inr rfl) sd_int rfl (by first | exact Or.inl rfl | exact Or.inr rfl))
    (sss_cons (ss_while [4, 5] (passes_of rfl) (sb_cmp op_lt lk_lt (sd_var (pv 3)) (SD.of (se_b (pe_callB cr_len rfl bt.len b_len (sa_cons (sd_var (pv 1)) sa_nil rfl)) lk_len)) (nomark _)) (sss_cons (ss_for [4, 5] (passes_of rfl) rfl (si_seq (SD.of (se_callN rfl G_possible (hr.mono (by decide)) (by rfl) D_possible.m D_possible.F.kp D_possible.b tk (sa_cons (sd_var (pv 0)) (sa_cons (SD.of (se_ix hu1 (sd_var (pv 1)) (sd_var (pv 3)) (fun _ _ => rfl))) sa_nil rfl) rfl) (by decide) rfl rfl))) (sg_name (pg_name (i := 4) N rfl (by first | exact Or.inl rfl | exact Or.inr rfl))) (sss_cons (ss_set N rfl (by first | exact Or.inl rfl | exact Or.inr rfl) (SD.of (se_callN rfl G_moved (hr.mono (by decide)) (by rfl) D_moved.m D_moved.F.kp D_moved.b tk (sa_cons (sd_var (pv 0)) (sa_cons (SD.of (se_ix hu1 (sd_var (pv 1)) (sd_var (pv 3)) (fun _ _ => rfl))) (sa_cons (sd_var (pv 4)) sa_nil rfl) rfl) rfl) (by decide) rfl rfl)) rfl (by first | exact Or.inl rfl | exact Or.inr rfl))
    (sss_one (ss_if (sb_cmp (op_notIn hu65) lk_notIn (sd_var (pv 5)) (sd_var (pv 2)) rfl) (sss_cons (ss_put hu1 (sd_var (pv 2)) (sd_var (pv 5)) sd_bl (fun _ => rfl) rfl rfl rfl)
    (sss_one (ss_expr (SD.of (se_m (pe_bm PySem.F.plainAttrs_list PySem.F.slot_list_append PySem.F.type_list_append mt_append (sd_var (pv 1)) (sa_cons (sd_var (pv 5)) sa_nil rfl)) lk_append)) rfl))) sss_nil))) (fun _ => rfl))
    (sss_one (ss_aug N rfl (by first | exact Or.inl rfl | exact Or.inr rfl) sd_int iop_add lk_addI (by first | exact Or.inl rfl | exact Or.inr rfl)))))
    (sss_one (ss_ret (SE.of (sd_var (pv 1)))))))))
abbrev s_states_behind : Stmt := top 16
theorem sc_states_behind : FnScope ["system", "run", "states", "action"] ["system", "run"] (defScope s_states_behind) := ⟨rfl, rfl, rfl, by decide +kernel, rfl, by decide +kernel, by decide +kernel⟩
noncomputable def S_states_behind : ST := (sSeq (sSet 2 (ed (e1 (fFld [0] 1) (eVar 0))))
  (sSeq (sFor (iSeq (eVar 1)) (tN 3) (sSeq (sIf (eTB (e2 fNotIn (eVar 3) (ed (eCall 2 B_possible (aCons (eVar 0) (aCons (eVar 2) aNil)))))) (sRet (ev (eC .non))) sPass)
  (sSet 2 (ed (eCall 3 B_moved (aCons (eVar 0) (aCons (eVar 2) (aCons (eVar 3) aNil))))))) [3])
  (sRet (ev (eVar 2)))))
noncomputable def B_states_behind : BD := body 4 S_states_behind
theorem ok_states_behind {f_ : Addr} {fd_ : FuncData} {f_possible : Addr} {fd_possible : FuncData} {f_moved : Addr} {fd_moved : FuncData} (F0 : Fun K "states_behind" "states_behind" s_states_behind f_ fd_) (C_System : ClF ca K 0 ["sizes", "starts", "actions"]) (D_possible : Dg K mg "possible" "possible" s_possible ["system", "states"] f_possible fd_possible) (G_possible : FnOk P w K mg base (L2.CX P w) 1 f_possible fd_possible ["system", "states"] (spB ca 2 B_possible)) (D_moved : Dg K mg "moved" "moved" s_moved ["system", "states", "action"] f_moved fd_moved) (G_moved : FnOk P w K mg base (L2.CX P w) 1 f_moved fd_moved ["system", "states", "action"] (spB ca 3 B_moved)) :
    FnOk P w K mg base (L2.CX P w) 2 f_ fd_ ["system", "run"] (spB ca 2 B_states_behind) := by
  have N : (["system", "run", "states", "action"] : List Str).Nodup := sc_states_behind.nd
  refine def_ok F0 sc_states_behind fun cdv A outer s H E hr => ?_
  have hu65 : (cxOf (L2.CX P w) P w K mg base ["system", "run", "states", "action"] "states_behind" (defScope s_states_behind) f_ cdv A outer s H E).A.units + 65 < cLine := by have := hr.un; show (A.deeper _).units + 65 < cLine; omega
  have hu64 : (cxOf (L2.CX P w) P w K mg base ["system", "run", "states", "action"] "states_behind" (defScope s_states_behind) f_ cdv A outer s H E).A.units + 64 < cLine := by omega
  have hu1 : (cxOf (L2.CX P w) P w K mg base ["system", "run", "states", "action"] "states_behind" (defScope s_states_behind) f_ cdv A outer s H E).A.units + 1 < cLine := by omega
  have tk : Takes (cxOf (L2.CX P w) P w K mg base ["system", "run", "states", "action"] "states_behind" (defScope s_states_behind) f_ cdv A outer s H E) (fun cls d _ H' => E cls d H') := takes_of rfl rfl rfl rfl
  unfold S_states_behind
  exact (sss_cons (ss_set N rfl (by first | exact Or.inl rfl | exact Or.inr rfl) (SD.of (se_fld (sd_var (pv 0)) rfl (C_System.at (i := 1) (by decide +kernel) rfl))) rfl (by first | exact Or.inl rfl | exact Or.inr rfl))
    (sss_cons (ss_for [3] (passes_of rfl) rfl (si_seq (sd_var (pv 1))) (sg_name (pg_name (i := 3) N rfl (by first | exact Or.inl rfl | exact Or.inr rfl))) (sss_cons (ss_if (sb_cmp (op_notIn hu65) lk_notIn (sd_var (pv 3)) (SD.of (se_callN rfl G_possible (hr.mono (by decide)) (by rfl) D_possible.m D_possible.F.kp D_possible.b tk (sa_cons (sd_var (pv 0)) (sa_cons (sd_var (pv 2)) sa_nil rfl) rfl) (by decide) rfl rfl)) rfl) (sss_one (ss_ret (SE.of sd_non))) sss_nil)
    (sss_one (ss_set N rfl (by first | exact Or.inl rfl | exact Or.inr rfl) (SD.of (se_callN rfl G_moved (hr.mono (by decide)) (by rfl) D_moved.m D_moved.F.kp D_moved.b tk (sa_cons (sd_var (pv 0)) (sa_cons (sd_var (pv 2)) (sa_cons (sd_var (pv 3)) sa_nil rfl) rfl) rfl) (by decide) rfl rfl)) rfl (by first | exact Or.inl rfl | exact Or.inr rfl)))) (fun _ => rfl))
    (sss_one (ss_ret (SE.of (sd_var (pv 2)))))))
abbrev s__law_system : Stmt := top 23
theorem sc__law_system : FnScope ["draws", "most_places", "most_size", "most_actions", "labels", "places", "sizes", "place", "deeds", "k", "moves", "j", "size"] ["draws", "most_places", "most_size", "most_actions", "labels"] (defScope s__law_system) := ⟨rfl, rfl, rfl, by decide +kernel, rfl, by decide +kernel, by decide +kernel⟩
noncomputable def S__law_system : ST := (sSeq (sSet 5 (ed (e2 fAdd (eC (.int 1)) (ed (eCall 2 B__law_take (aCons (eVar 0) (aCons (eVar 1) aNil)))))))
  (sSeq (sSet 6 (ed (eA fTuple (aCons (ed (eComp (iR1 (aCons (eVar 5) aNil)) (tN 7) bYes (ed (e2 fAdd (eC (.int 1)) (ed (eCall 2 B__law_take (aCons (eVar 0) (aCons (eVar 2) aNil)))))) [7])) aNil))))
  (sSeq (sSet 8 (eAl (eLst aNil)))
  (sSeq (sFor (iR1 (aCons (ed (eCall 2 B__law_take (aCons (eVar 0) (aCons (ed (e2 fAdd (eVar 3) (eC (.int 1)))) aNil)))) aNil)) (tN 9) (sSeq (sSet 10 (eAl eNewK))
  (sSeq (sFor (iR1 (aCons (ed (e2 fAdd (eC (.int 1)) (ed (eIf (eTB (e2 fEq (ed (eCall 2 B__law_take (aCons (eVar 0) (aCons (eC (.int 3)) aNil)))) (eC (.int 0)))) (ev (eC (.int 1))) (ev (eC (.int 0))))))) aNil)) (tN 11) (sSeq (sSet 7 (ed (eCall 2 B__law_take (aCons (eVar 0) (aCons (eVar 5) aNil)))))
  (sPut (eVar 10) (eVar 7) (eTup (aCons (eVar 7) (aCons (ed (eCall 2 B__law_take (aCons (eVar 0) (aCons (ed (e2 fIx (eVar 6) (eVar 7))) aNil)))) (aCons (ed (eCall 2 B__law_take (aCons (eVar 0) (aCons (ed (e2 fIx (eVar 6) (eVar 7))) aNil)))) aNil)))))) [11])
  (sX (ed (eM "list" fAppend (eVar 8) (aCons (eTup (aCons (ed (eCall 2 B__law_take (aCons (eVar 0) (aCons (eVar 4) aNil)))) (aCons (ed (eA fTuple (aCons (ed (eComp (iSeq (ed (eA fSorted (aCons (eVar 10) aNil)))) (tN 7) bYes (ed (e2 fIx (eVar 10) (eVar 7))) [7])) aNil))) aNil))) aNil)))))) [9, 10, 11])
  (sRet (ev (eTup (aCons (eVar 6) (aCons (ed (eA fTuple (aCons (ed (eComp (iSeq (eVar 6)) (tN 12) bYes (ed (eCall 2 B__law_take (aCons (eVar 0) (aCons (eVar 12) aNil)))) [12])) aNil))) (aCons (ed (eA fTuple (aCons (eVar 8) aNil))) aNil))))))))))
noncomputable def B__law_system : BD := body 13 S__law_system
theorem ok__law_system {f_ : Addr} {fd_ : FuncData} {f__law_take : Addr} {fd__law_take : FuncData} (F0 : Fun K "_law_system" "_law_system" s__law_system f_ fd_) (bt : Bt mg) (D__law_take : Dg K mg "_law_take" "_law_take" s__law_take ["draws", "limit"] f__law_take fd__law_take) (G__law_take : FnOk P w K mg base (L2.CX P w) 1 f__law_take fd__law_take ["draws", "limit"] (spB ca 2 B__law_take)) :
    FnOk P w K mg base (L2.CX P w) 2 f_ fd_ ["draws", "most_places", "most_size", "most_actions", "labels"] (spB ca 5 B__law_system) := by
  have N : (["draws", "most_places", "most_size", "most_actions", "labels", "places", "sizes", "place", "deeds", "k", "moves", "j", "size"] : List Str).Nodup := sc__law_system.nd
  refine def_ok F0 sc__law_system fun cdv A outer s H E hr => ?_
  have hu65 : (cxOf (L2.CX P w) P w K mg base ["draws", "most_places", "most_size", "most_actions", "labels", "places", "sizes", "place", "deeds", "k", "moves", "j", "size"] "_law_system" (defScope s__law_system) f_ cdv A outer s H E).A.units + 65 < cLine := by have := hr.un; show (A.deeper _).units + 65 < cLine; omega
  have hu64 : (cxOf (L2.CX P w) P w K mg base ["draws", "most_places", "most_size", "most_actions", "labels", "places", "sizes", "place", "deeds", "k", "moves", "j", "size"] "_law_system" (defScope s__law_system) f_ cdv A outer s H E).A.units + 64 < cLine := by omega
  have hu1 : (cxOf (L2.CX P w) P w K mg base ["draws", "most_places", "most_size", "most_actions", "labels", "places", "sizes", "place", "deeds", "k", "moves", "j", "size"] "_law_system" (defScope s__law_system) f_ cdv A outer s H E).A.units + 1 < cLine := by omega
  have tk : Takes (cxOf (L2.CX P w) P w K mg base ["draws", "most_places", "most_size", "most_actions", "labels", "places", "sizes", "place", "deeds", "k", "moves", "j", "size"] "_law_system" (defScope s__law_system) f_ cdv A outer s H E) (fun cls d _ H' => E cls d H') := takes_of rfl rfl rfl rfl
  unfold S__law_system
  exact (sss_cons (ss_set N rfl (by first | exact Or.inl rfl | exact Or.inr rfl) (SD.of (se_op op_addA lk_add sd_int (SD.of (se_callN rfl G__law_take (hr.mono (by decide)) (by rfl) D__law_take.m D__law_take.F.kp D__law_take.b tk (sa_cons (sd_var (pv 0)) (sa_cons (sd_var (pv 1)) sa_nil rfl) rfl) (by decide) rfl rfl)))) rfl (by first | exact Or.inl rfl | exact Or.inr rfl))
    (sss_cons (ss_set N rfl (by first | exact Or.inl rfl | exact Or.inr rfl) (SD.of (se_b (pe_callTy call_tuple_of rfl bt.tuple b_tuple (sa_cons (SD.of (se_lc (own := [(("place" : Str), 7)]) rfl N (si_r1 (pi_range1 rfl bt.range (sa_cons (sd_var (pv 5)) sa_nil rfl))) (blkOk_by (by rfl)) (fun _ _ _ _ _ => by exact (sgw_name (pg_name (i := 7) N rfl (by first | exact Or.inl rfl | exact Or.inr rfl)) (by decide))) (fun _ _ _ _ _ => by exact sts_nil) (fun _ _ _ _ _ => by exact (SD.of (se_op op_addA lk_add sd_int (SD.of (se_callN rfl G__law_take (hr.mono (by decide)) (by rfl) D__law_take.m D__law_take.F.kp D__law_take.b tk0 (sa_cons (sd_var (pv 0)) (sa_cons (sd_var (pv 2)) sa_nil rfl) rfl) (by decide) rfl rfl))))) (fun _ => rfl))) sa_nil rfl)) lk_tuple)) rfl (by first | exact Or.inl rfl | exact Or.inr rfl))
    (sss_cons (ss_set N rfl (by first | exact Or.inl rfl | exact Or.inr rfl) (sd_al (se_lst sa_nil)) rfl (by first | exact Or.inl rfl | exact Or.inr rfl))
    (sss_cons (ss_for [9, 10, 11] (passes_of rfl) rfl (si_r1 (pi_range1 rfl bt.range (sa_cons (SD.of (se_callN rfl G__law_take (hr.mono (by decide)) (by rfl) D__law_take.m D__law_take.F.kp D__law_take.b tk (sa_cons (sd_var (pv 0)) (sa_cons (SD.of (se_op op_addA lk_add (sd_var (pv 3)) sd_int)) sa_nil rfl) rfl) (by decide) rfl rfl)) sa_nil rfl))) (sg_name (pg_name (i := 9) N rfl (by first | exact Or.inl rfl | exact Or.inr rfl))) (sss_cons (ss_set N rfl (by first | exact Or.inl rfl | exact Or.inr rfl) (sd_al se_newK) rfl (by first | exact Or.inl rfl | exact Or.inr rfl))
    (sss_cons (ss_for [11] (passes_of rfl) rfl (si_r1 (pi_range1 rfl bt.range (sa_cons (SD.of (se_op op_addA lk_add sd_int (SD.of (se_if (sb_cmp (op_eqD hu64) lk_eq (SD.of (se_callN rfl G__law_take (hr.mono (by decide)) (by rfl) D__law_take.m D__law_take.F.kp D__law_take.b tk (sa_cons (sd_var (pv 0)) (sa_cons sd_int sa_nil rfl) rfl) (by decide) rfl rfl)) sd_int (nomark _)) (SE.of sd_int) (SE.of sd_int))))) sa_nil rfl))) (sg_name (pg_name (i := 11) N rfl (by first | exact Or.inl rfl | exact Or.inr rfl))) (sss_cons (ss_set N rfl (by first | exact Or.inl rfl | exact Or.inr rfl) (SD.of (se_callN rfl G__law_take (hr.mono (by decide)) (by rfl) D__law_take.m D__law_take.F.kp D__law_take.b tk (sa_cons (sd_var (pv 0)) (sa_cons (sd_var (pv 5)) sa_nil rfl) rfl) (by decide) rfl rfl)) rfl (by first | exact Or.inl rfl | exact Or.inr rfl))
    (sss_one (ss_put hu1 (sd_var (pv 10)) (sd_var (pv 7)) (sd_tup (sa_cons (sd_var (pv 7)) (sa_cons (SD.of (se_callN rfl G__law_take (hr.mono (by decide)) (by rfl) D__law_take.m D__law_take.F.kp D__law_take.b tk (sa_cons (sd_var (pv 0)) (sa_cons (SD.of (se_ix hu1 (sd_var (pv 6)) (sd_var (pv 7)) (fun _ _ => rfl))) sa_nil rfl) rfl) (by decide) rfl rfl)) (sa_cons (SD.of (se_callN rfl G__law_take (hr.mono (by decide)) (by rfl) D__law_take.m D__law_take.F.kp D__law_take.b tk (sa_cons (sd_var (pv 0)) (sa_cons (SD.of (se_ix hu1 (sd_var (pv 6)) (sd_var (pv 7)) (fun _ _ => rfl))) sa_nil rfl) rfl) (by decide) rfl rfl)) sa_nil rfl) rfl) rfl)) (fun _ => rfl) rfl rfl rfl))) (fun _ => rfl))
    (sss_one (ss_expr (SD.of (se_m (pe_bm PySem.F.plainAttrs_list PySem.F.slot_list_append PySem.F.type_list_append mt_append (sd_var (pv 8)) (sa_cons (sd_tup (sa_cons (SD.of (se_callN rfl G__law_take (hr.mono (by decide)) (by rfl) D__law_take.m D__law_take.F.kp D__law_take.b tk (sa_cons (sd_var (pv 0)) (sa_cons (sd_var (pv 4)) sa_nil rfl) rfl) (by decide) rfl rfl)) (sa_cons (SD.of (se_b (pe_callTy call_tuple_of rfl bt.tuple b_tuple (sa_cons (SD.of (se_lc (own := [(("place" : Str), 7)]) rfl N (si_seq (SD.of (se_b (pe_callB (cr_sorted' rfl) rfl bt.sorted b_sorted (sa_cons (sd_var (pv 10)) sa_nil rfl)) lk_sorted))) (blkOk_by (by rfl)) (fun _ _ _ _ _ => by exact (sgw_name (pg_name (i := 7) N rfl (by first | exact Or.inl rfl | exact Or.inr rfl)) (by decide))) (fun _ _ _ _ _ => by exact sts_nil) (fun _ _ _ _ _ => by exact (SD.of (se_ix hu1 (sd_var (pv 10)) (sd_var (pv 7)) (fun _ _ => rfl)))) (fun _ => rfl))) sa_nil rfl)) lk_tuple)) sa_nil rfl) rfl)) sa_nil rfl)) lk_append)) rfl)))) (fun _ => rfl))
    (sss_one (ss_ret (SE.of (sd_tup (sa_cons (sd_var (pv 6)) (sa_cons (SD.of (se_b (pe_callTy call_tuple_of rfl bt.tuple b_tuple (sa_cons (SD.of (se_lc (own := [(("size" : Str), 12)]) rfl N (si_seq (sd_var (pv 6))) (blkOk_by (by rfl)) (fun _ _ _ _ _ => by exact (sgw_name (pg_name (i := 12) N rfl (by first | exact Or.inl rfl | exact Or.inr rfl)) (by decide))) (fun _ _ _ _ _ => by exact sts_nil) (fun _ _ _ _ _ => by exact (SD.of (se_callN rfl G__law_take (hr.mono (by decide)) (by rfl) D__law_take.m D__law_take.F.kp D__law_take.b tk0 (sa_cons (sd_var (pv 0)) (sa_cons (sd_var (pv 12)) sa_nil rfl) rfl) (by decide) rfl rfl))) (fun _ => rfl))) sa_nil rfl)) lk_tuple)) (sa_cons (SD.of (se_b (pe_callTy call_tuple_of rfl bt.tuple b_tuple (sa_cons (sd_var (pv 8)) sa_nil rfl)) lk_tuple)) sa_nil rfl) rfl) rfl)))))))))
abbrev s__law_arising : Stmt := top 26
theorem sc__law_arising : FnScope ["system", "limit", "order", "at", "action", "after"] ["system", "limit"] (defScope s__law_arising) := ⟨rfl, rfl, rfl, by decide +kernel, rfl, by decide +kernel, by decide +kernel⟩
noncomputable def S__law_arising : ST := (sSeq (sPar 2 3 (aCons (eAl (eLst (aCons (ed (e2 fIx (eVar 0) (eC (.int 1)))) aNil))) (aCons (eC (.int 0)) aNil)))
  (sSeq (sWh (bAnd (eTB (e2 fLt (eVar 3) (ed (eA fLen (aCons (eVar 2) aNil))))) (eTB (e2 fLe (ed (eA fLen (aCons (eVar 2) aNil))) (eVar 1)))) (sSeq (sFor (iSeq (ed (eCall 2 B__law_possible (aCons (eVar 0) (aCons (ed (e2 fIx (eVar 2) (eVar 3))) aNil))))) (tN 4) (sSeq (sSet 5 (ed (eCall 3 B__law_moved (aCons (eVar 0) (aCons (ed (e2 fIx (eVar 2) (eVar 3))) (aCons (eVar 4) aNil))))))
  (sIf (eTB (e2 fNotIn (eVar 5) (eVar 2))) (sX (ed (eM "list" fAppend (eVar 2) (aCons (eVar 5) aNil)))) sPass)) [4, 5])
  (sSet 3 (ed (e2 fAdd (eVar 3) (eC (.int 1)))))) [4, 5])
  (sRet (ev (eVar 2)))))
noncomputable def B__law_arising : BD := body 6 S__law_arising
theorem ok__law_arising {f_ : Addr} {fd_ : FuncData} {f__law_possible : Addr} {fd__law_possible : FuncData} {f__law_moved : Addr} {fd__law_moved : FuncData} (F0 : Fun K "_law_arising" "_law_arising" s__law_arising f_ fd_) (bt : Bt mg) (D__law_possible : Dg K mg "_law_possible" "_law_possible" s__law_possible ["system", "states"] f__law_possible fd__law_possible) (G__law_possible : FnOk P w K mg base (L2.CX P w) 1 f__law_possible fd__law_possible ["system", "states"] (spB ca 2 B__law_possible)) (D__law_moved : Dg K mg "_law_moved" "_law_moved" s__law_moved ["system", "states", "action"] f__law_moved fd__law_moved) (G__law_moved : FnOk P w K mg base (L2.CX P w) 1 f__law_moved fd__law_moved ["system", "states", "action"] (spB ca 3 B__law_moved)) :
    FnOk P w K mg base (L2.CX P w) 2 f_ fd_ ["system", "limit"] (spB ca 2 B__law_arising) := by
  have N : (["system", "limit", "order", "at", "action", "after"] : List Str).Nodup := sc__law_arising.nd
  refine def_ok F0 sc__law_arising fun cdv A outer s H E hr => ?_
  have hu65 : (cxOf (L2.CX P w) P w K mg base ["system", "limit", "order", "at", "action", "after"] "_law_arising" (defScope s__law_arising) f_ cdv A outer s H E).A.units + 65 < cLine := by have := hr.un; show (A.deeper _).units + 65 < cLine; omega
  have hu64 : (cxOf (L2.CX P w) P w K mg base ["system", "limit", "order", "at", "action", "after"] "_law_arising" (defScope s__law_arising) f_ cdv A outer s H E).A.units + 64 < cLine := by omega
  have hu1 : (cxOf (L2.CX P w) P w K mg base ["system", "limit", "order", "at", "action", "after"] "_law_arising" (defScope s__law_arising) f_ cdv A outer s H E).A.units + 1 < cLine := by omega
  have tk : Takes (cxOf (L2.CX P w) P w K mg base ["system", "limit", "order", "at", "action", "after"] "_law_arising" (defScope s__law_arising) f_ cdv A outer s H E) (fun cls d _ H' => E cls d H') := takes_of rfl rfl rfl rfl
  unfold S__law_arising
  exact (sss_cons (ss_par (i := 2) (j := 3) rfl N rfl rfl (by decide) rfl rfl (sa_cons (sd_al (se_lst (sa_cons (SD.of (se_ix hu1 (sd_var (pv 0)) sd_int (fun _ _ => rfl))) sa_nil rfl))) (sa_cons sd_int sa_nil rfl) rfl) (by rfl) rfl)
    (sss_cons (ss_while [4, 5] (passes_of rfl) (sb_w (sw_and (sb_cmp op_lt lk_lt (sd_var (pv 3)) (SD.of (se_b (pe_callB cr_len rfl bt.len b_len (sa_cons (sd_var (pv 2)) sa_nil rfl)) lk_len)) (nomark _)) (sw_and1 (sb_cmp op_le lk_le (SD.of (se_b (pe_callB cr_len rfl bt.len b_len (sa_cons (sd_var (pv 2)) sa_nil rfl)) lk_len)) (sd_var (pv 1)) (nomark _))))) (sss_cons (ss_for [4, 5] (passes_of rfl) rfl (si_seq (SD.of (se_callN rfl G__law_possible (hr.mono (by decide)) (by rfl) D__law_possible.m D__law_possible.F.kp D__law_possible.b tk (sa_cons (sd_var (pv 0)) (sa_cons (SD.of (se_ix hu1 (sd_var (pv 2)) (sd_var (pv 3)) (fun _ _ => rfl))) sa_nil rfl) rfl) (by decide) rfl rfl))) (sg_name (pg_name (i := 4) N rfl (by first | exact Or.inl rfl | exact Or.inr rfl))) (sss_cons (ss_set N rfl (by first | exact Or.inl rfl | exact Or.inr rfl) (SD.of (se_callN rfl G__law_moved (hr.mono (by decide)) (by rfl) D__law_moved.m D__law_moved.F.kp D__law_moved.b tk (sa_cons (sd_var (pv 0)) (sa_cons (SD.of (se_ix hu1 (sd_var (pv 2)) (sd_var (pv 3)) (fun _ _ => rfl))) (sa_cons (sd_var (pv 4)) sa_nil rfl) rfl) rfl) (by decide) rfl rfl)) rfl (by first | exact Or.inl rfl | exact Or.inr rfl))
    (sss_one (ss_if (sb_cmp (op_notIn hu65) lk_notIn (sd_var (pv 5)) (sd_var (pv 2)) rfl) (sss_one (ss_expr (SD.of (se_m (pe_bm PySem.F.plainAttrs_list PySem.F.slot_list_append PySem.F.type_list_append mt_append (sd_var (pv 2)) (sa_cons (sd_var (pv 5)) sa_nil rfl)) lk_append)) rfl)) sss_nil))) (fun _ => rfl))
    (sss_one (ss_set N rfl (by first | exact Or.inl rfl | exact Or.inr rfl) (SD.of (se_op op_addA lk_add (sd_var (pv 3)) sd_int)) rfl (by first | exact Or.inl rfl | exact Or.inr rfl)))))
    (sss_one (ss_ret (SE.of (sd_var (pv 2)))))))
abbrev s__law_apart : Stmt := top 28
theorem sc__law_apart : FnScope ["system", "one", "other", "place"] ["system", "one", "other"] (defScope s__law_apart) := ⟨rfl, rfl, rfl, by decide +kernel, rfl, by decide +kernel, by decide +kernel⟩
noncomputable def S__law_apart : ST := (sRet (e2 fEq (ed (eA fLen (aCons (ed (eComp (iSeq (ed (eCall 2 B__law_places (aCons (eVar 0) (aCons (eVar 1) aNil))))) (tN 3) (eTB (e2 fIn (eVar 3) (ed (eCall 2 B__law_places (aCons (eVar 0) (aCons (eVar 2) aNil)))))) (eC (.int 1)) [3])) aNil))) (eC (.int 0))))
noncomputable def B__law_apart : BD := body 4 S__law_apart
theorem ok__law_apart {f_ : Addr} {fd_ : FuncData} {f__law_places : Addr} {fd__law_places : FuncData} (F0 : Fun K "_law_apart" "_law_apart" s__law_apart f_ fd_) (bt : Bt mg) (D__law_places : Dg K mg "_law_places" "_law_places" s__law_places ["system", "action"] f__law_places fd__law_places) (G__law_places : FnOk P w K mg base (L2.CX P w) 1 f__law_places fd__law_places ["system", "action"] (spB ca 2 B__law_places)) :
    FnOk P w K mg base (L2.CX P w) 2 f_ fd_ ["system", "one", "other"] (spB ca 3 B__law_apart) := by
  have N : (["system", "one", "other", "place"] : List Str).Nodup := sc__law_apart.nd
  refine def_ok F0 sc__law_apart fun cdv A outer s H E hr => ?_
  have hu65 : (cxOf (L2.CX P w) P w K mg base ["system", "one", "other", "place"] "_law_apart" (defScope s__law_apart) f_ cdv A outer s H E).A.units + 65 < cLine := by have := hr.un; show (A.deeper _).units + 65 < cLine; omega
  have hu64 : (cxOf (L2.CX P w) P w K mg base ["system", "one", "other", "place"] "_law_apart" (defScope s__law_apart) f_ cdv A outer s H E).A.units + 64 < cLine := by omega
  have hu1 : (cxOf (L2.CX P w) P w K mg base ["system", "one", "other", "place"] "_law_apart" (defScope s__law_apart) f_ cdv A outer s H E).A.units + 1 < cLine := by omega
  have tk : Takes (cxOf (L2.CX P w) P w K mg base ["system", "one", "other", "place"] "_law_apart" (defScope s__law_apart) f_ cdv A outer s H E) (fun cls d _ H' => E cls d H') := takes_of rfl rfl rfl rfl
  unfold S__law_apart
  exact (sss_one (ss_ret (se_cmp (op_eqD hu64) lk_eq (SD.of (se_b (pe_callB cr_len rfl bt.len b_len (sa_cons (SD.of (se_lc (own := [(("place" : Str), 3)]) rfl N (si_seq (SD.of (se_callN rfl G__law_places (hr.mono (by decide)) (by rfl) D__law_places.m D__law_places.F.kp D__law_places.b tk (sa_cons (sd_var (pv 0)) (sa_cons (sd_var (pv 1)) sa_nil rfl) rfl) (by decide) rfl rfl))) (blkOk_by (by rfl)) (fun _ _ _ _ _ => by exact (sgw_name (pg_name (i := 3) N rfl (by first | exact Or.inl rfl | exact Or.inr rfl)) (by decide))) (fun _ _ _ _ _ => by exact (sts_one (sb_cmp (op_in hu65) lk_in (sd_var (pv 3)) (SD.of (se_callN rfl G__law_places (hr.mono (by decide)) (by rfl) D__law_places.m D__law_places.F.kp D__law_places.b tk0 (sa_cons (sd_var (pv 0)) (sa_cons (sd_var (pv 2)) sa_nil rfl) rfl) (by decide) rfl rfl)) rfl))) (fun _ _ _ _ _ => by exact sd_int) (fun _ => rfl))) sa_nil rfl)) lk_len)) sd_int (nomark _))))
abbrev s__law_run : Stmt := top 31
theorem sc__law_run : FnScope ["draws", "system", "most", "run", "states", "k", "ready", "action"] ["draws", "system", "most"] (defScope s__law_run) := ⟨rfl, rfl, rfl, by decide +kernel, rfl, by decide +kernel, by decide +kernel⟩
noncomputable def S__law_run : ST := (sSeq (sPar 3 4 (aCons (eTup aNil) (aCons (ed (e2 fIx (eVar 1) (eC (.int 1)))) aNil)))
  (sSeq (sFor (iR1 (aCons (ed (eCall 2 B__law_take (aCons (eVar 0) (aCons (eVar 2) aNil)))) aNil)) (tN 5) (sSeq (sSet 6 (ed (eCall 2 B__law_possible (aCons (eVar 1) (aCons (eVar 4) aNil)))))
  (sIf (eTB (e2 fGt (ed (eA fLen (aCons (eVar 6) aNil))) (eC (.int 0)))) (sSeq (sSet 7 (ed (e2 fIx (eVar 6) (ed (eCall 2 B__law_take (aCons (eVar 0) (aCons (ed (eA fLen (aCons (eVar 6) aNil))) aNil)))))))
  (sPar 3 4 (aCons (ed (e2 fAdd (eVar 3) (eTup (aCons (eVar 7) aNil)))) (aCons (ed (eCall 3 B__law_moved (aCons (eVar 1) (aCons (eVar 4) (aCons (eVar 7) aNil))))) aNil)))) sPass)) [5, 6, 7])
  (sRet (ev (eVar 3)))))
noncomputable def B__law_run : BD := body 8 S__law_run
theorem ok__law_run {f_ : Addr} {fd_ : FuncData} {f__law_take : Addr} {fd__law_take : FuncData} {f__law_possible : Addr} {fd__law_possible : FuncData} {f__law_moved : Addr} {fd__law_moved : FuncData} (F0 : Fun K "_law_run" "_law_run" s__law_run f_ fd_) (bt : Bt mg) (D__law_take : Dg K mg "_law_take" "_law_take" s__law_take ["draws", "limit"] f__law_take fd__law_take) (G__law_take : FnOk P w K mg base (L2.CX P w) 1 f__law_take fd__law_take ["draws", "limit"] (spB ca 2 B__law_take)) (D__law_possible : Dg K mg "_law_possible" "_law_possible" s__law_possible ["system", "states"] f__law_possible fd__law_possible) (G__law_possible : FnOk P w K mg base (L2.CX P w) 1 f__law_possible fd__law_possible ["system", "states"] (spB ca 2 B__law_possible)) (D__law_moved : Dg K mg "_law_moved" "_law_moved" s__law_moved ["system", "states", "action"] f__law_moved fd__law_moved) (G__law_moved : FnOk P w K mg base (L2.CX P w) 1 f__law_moved fd__law_moved ["system", "states", "action"] (spB ca 3 B__law_moved)) :
    FnOk P w K mg base (L2.CX P w) 2 f_ fd_ ["draws", "system", "most"] (spB ca 3 B__law_run) := by
  have N : (["draws", "system", "most", "run", "states", "k", "ready", "action"] : List Str).Nodup := sc__law_run.nd
  refine def_ok F0 sc__law_run fun cdv A outer s H E hr => ?_
  have hu65 : (cxOf (L2.CX P w) P w K mg base ["draws", "system", "most", "run", "states", "k", "ready", "action"] "_law_run" (defScope s__law_run) f_ cdv A outer s H E).A.units + 65 < cLine := by have := hr.un; show (A.deeper _).units + 65 < cLine; omega
  have hu64 : (cxOf (L2.CX P w) P w K mg base ["draws", "system", "most", "run", "states", "k", "ready", "action"] "_law_run" (defScope s__law_run) f_ cdv A outer s H E).A.units + 64 < cLine := by omega
  have hu1 : (cxOf (L2.CX P w) P w K mg base ["draws", "system", "most", "run", "states", "k", "ready", "action"] "_law_run" (defScope s__law_run) f_ cdv A outer s H E).A.units + 1 < cLine := by omega
  have tk : Takes (cxOf (L2.CX P w) P w K mg base ["draws", "system", "most", "run", "states", "k", "ready", "action"] "_law_run" (defScope s__law_run) f_ cdv A outer s H E) (fun cls d _ H' => E cls d H') := takes_of rfl rfl rfl rfl
  unfold S__law_run
  exact (sss_cons (ss_par (i := 3) (j := 4) rfl N rfl rfl (by decide) rfl rfl (sa_cons (sd_tup sa_nil) (sa_cons (SD.of (se_ix hu1 (sd_var (pv 1)) sd_int (fun _ _ => rfl))) sa_nil rfl) rfl) (by rfl) rfl)
    (sss_cons (ss_for [5, 6, 7] (passes_of rfl) rfl (si_r1 (pi_range1 rfl bt.range (sa_cons (SD.of (se_callN rfl G__law_take (hr.mono (by decide)) (by rfl) D__law_take.m D__law_take.F.kp D__law_take.b tk (sa_cons (sd_var (pv 0)) (sa_cons (sd_var (pv 2)) sa_nil rfl) rfl) (by decide) rfl rfl)) sa_nil rfl))) (sg_name (pg_name (i := 5) N rfl (by first | exact Or.inl rfl | exact Or.inr rfl))) (sss_cons (ss_set N rfl (by first | exact Or.inl rfl | exact Or.inr rfl) (SD.of (se_callN rfl G__law_possible (hr.mono (by decide)) (by rfl) D__law_possible.m D__law_possible.F.kp D__law_possible.b tk (sa_cons (sd_var (pv 1)) (sa_cons (sd_var (pv 4)) sa_nil rfl) rfl) (by decide) rfl rfl)) rfl (by first | exact Or.inl rfl | exact Or.inr rfl))
    (sss_one (ss_if (sb_cmp op_gt lk_gt (SD.of (se_b (pe_callB cr_len rfl bt.len b_len (sa_cons (sd_var (pv 6)) sa_nil rfl)) lk_len)) sd_int (nomark _)) (sss_cons (ss_set N rfl (by first | exact Or.inl rfl | exact Or.inr rfl) (SD.of (se_ix hu1 (sd_var (pv 6)) (SD.of (se_callN rfl G__law_take (hr.mono (by decide)) (by rfl) D__law_take.m D__law_take.F.kp D__law_take.b tk (sa_cons (sd_var (pv 0)) (sa_cons (SD.of (se_b (pe_callB cr_len rfl bt.len b_len (sa_cons (sd_var (pv 6)) sa_nil rfl)) lk_len)) sa_nil rfl) rfl) (by decide) rfl rfl)) (fun _ _ => rfl))) rfl (by first | exact Or.inl rfl | exact Or.inr rfl))
    (sss_one (ss_par (i := 3) (j := 4) rfl N rfl rfl (by decide) rfl rfl (sa_cons (SD.of (se_op op_addA lk_add (sd_var (pv 3)) (sd_tup (sa_cons (sd_var (pv 7)) sa_nil rfl)))) (sa_cons (SD.of (se_callN rfl G__law_moved (hr.mono (by decide)) (by rfl) D__law_moved.m D__law_moved.F.kp D__law_moved.b tk (sa_cons (sd_var (pv 1)) (sa_cons (sd_var (pv 4)) (sa_cons (sd_var (pv 7)) sa_nil rfl) rfl) rfl) (by decide) rfl rfl)) sa_nil rfl) rfl) (by rfl) rfl))) sss_nil))) (fun _ => rfl))
    (sss_one (ss_ret (SE.of (sd_var (pv 3)))))))
abbrev s__law_is_run : Stmt := top 32
theorem sc__law_is_run : FnScope ["system", "run", "states", "action"] ["system", "run"] (defScope s__law_is_run) := ⟨rfl, rfl, rfl, by decide +kernel, rfl, by decide +kernel, by decide +kernel⟩
noncomputable def S__law_is_run : ST := (sSeq (sSet 2 (ed (e2 fIx (eVar 0) (eC (.int 1)))))
  (sSeq (sFor (iSeq (eVar 1)) (tN 3) (sSeq (sIf (eTB (e2 fNotIn (eVar 3) (ed (eCall 2 B__law_possible (aCons (eVar 0) (aCons (eVar 2) aNil)))))) (sRet (ev (eC (.bl false)))) sPass)
  (sSet 2 (ed (eCall 3 B__law_moved (aCons (eVar 0) (aCons (eVar 2) (aCons (eVar 3) aNil))))))) [3])
  (sRet (ev (eC (.bl true))))))
noncomputable def B__law_is_run : BD := body 4 S__law_is_run
theorem ok__law_is_run {f_ : Addr} {fd_ : FuncData} {f__law_possible : Addr} {fd__law_possible : FuncData} {f__law_moved : Addr} {fd__law_moved : FuncData} (F0 : Fun K "_law_is_run" "_law_is_run" s__law_is_run f_ fd_) (D__law_possible : Dg K mg "_law_possible" "_law_possible" s__law_possible ["system", "states"] f__law_possible fd__law_possible) (G__law_possible : FnOk P w K mg base (L2.CX P w) 1 f__law_possible fd__law_possible ["system", "states"] (spB ca 2 B__law_possible)) (D__law_moved : Dg K mg "_law_moved" "_law_moved" s__law_moved ["system", "states", "action"] f__law_moved fd__law_moved) (G__law_moved : FnOk P w K mg base (L2.CX P w) 1 f__law_moved fd__law_moved ["system", "states", "action"] (spB ca 3 B__law_moved)) :
    FnOk P w K mg base (L2.CX P w) 2 f_ fd_ ["system", "run"] (spB ca 2 B__law_is_run) := by
  have N : (["system", "run", "states", "action"] : List Str).Nodup := sc__law_is_run.nd
  refine def_ok F0 sc__law_is_run fun cdv A outer s H E hr => ?_
  have hu65 : (cxOf (L2.CX P w) P w K mg base ["system", "run", "states", "action"] "_law_is_run" (defScope s__law_is_run) f_ cdv A outer s H E).A.units + 65 < cLine := by have := hr.un; show (A.deeper _).units + 65 < cLine; omega
  have hu64 : (cxOf (L2.CX P w) P w K mg base ["system", "run", "states", "action"] "_law_is_run" (defScope s__law_is_run) f_ cdv A outer s H E).A.units + 64 < cLine := by omega
  have hu1 : (cxOf (L2.CX P w) P w K mg base ["system", "run", "states", "action"] "_law_is_run" (defScope s__law_is_run) f_ cdv A outer s H E).A.units + 1 < cLine := by omega
  have tk : Takes (cxOf (L2.CX P w) P w K mg base ["system", "run", "states", "action"] "_law_is_run" (defScope s__law_is_run) f_ cdv A outer s H E) (fun cls d _ H' => E cls d H') := takes_of rfl rfl rfl rfl
  unfold S__law_is_run
  exact (sss_cons (ss_set N rfl (by first | exact Or.inl rfl | exact Or.inr rfl) (SD.of (se_ix hu1 (sd_var (pv 0)) sd_int (fun _ _ => rfl))) rfl (by first | exact Or.inl rfl | exact Or.inr rfl))
    (sss_cons (ss_for [3] (passes_of rfl) rfl (si_seq (sd_var (pv 1))) (sg_name (pg_name (i := 3) N rfl (by first | exact Or.inl rfl | exact Or.inr rfl))) (sss_cons (ss_if (sb_cmp (op_notIn hu65) lk_notIn (sd_var (pv 3)) (SD.of (se_callN rfl G__law_possible (hr.mono (by decide)) (by rfl) D__law_possible.m D__law_possible.F.kp D__law_possible.b tk (sa_cons (sd_var (pv 0)) (sa_cons (sd_var (pv 2)) sa_nil rfl) rfl) (by decide) rfl rfl)) rfl) (sss_one (ss_ret (SE.of sd_bl))) sss_nil)
    (sss_one (ss_set N rfl (by first | exact Or.inl rfl | exact Or.inr rfl) (SD.of (se_callN rfl G__law_moved (hr.mono (by decide)) (by rfl) D__law_moved.m D__law_moved.F.kp D__law_moved.b tk (sa_cons (sd_var (pv 0)) (sa_cons (sd_var (pv 2)) (sa_cons (sd_var (pv 3)) sa_nil rfl) rfl) rfl) (by decide) rfl rfl)) rfl (by first | exact Or.inl rfl | exact Or.inr rfl)))) (fun _ => rfl))
    (sss_one (ss_ret (SE.of sd_bl)))))
abbrev s_stuck : Stmt := top 15
theorem sc_stuck : FnScope ["system", "states"] ["system"] (defScope s_stuck) := ⟨rfl, rfl, rfl, by decide +kernel, rfl, by decide +kernel, by decide +kernel⟩
noncomputable def S_stuck : ST := (sRet (eComp (iSeq (ed (eCall 1 B_arising (aCons (eVar 0) aNil)))) (tN 1) (bNot (eT (ed (eCall 2 B_possible (aCons (eVar 0) (aCons (eVar 1) aNil)))))) (eVar 1) [1]))
noncomputable def B_stuck : BD := body 2 S_stuck
theorem ok_stuck {f_ : Addr} {fd_ : FuncData} {f_arising : Addr} {fd_arising : FuncData} {f_possible : Addr} {fd_possible : FuncData} (F0 : Fun K "stuck" "stuck" s_stuck f_ fd_) (D_arising : Dg K mg "arising" "arising" s_arising ["system"] f_arising fd_arising) (G_arising : FnOk P w K mg base (L2.CX P w) 2 f_arising fd_arising ["system"] (spB ca 1 B_arising)) (D_possible : Dg K mg "possible" "possible" s_possible ["system", "states"] f_possible fd_possible) (G_possible : FnOk P w K mg base (L2.CX P w) 1 f_possible fd_possible ["system", "states"] (spB ca 2 B_possible)) :
    FnOk P w K mg base (L2.CX P w) 3 f_ fd_ ["system"] (spB ca 1 B_stuck) := by
  have N : (["system", "states"] : List Str).Nodup := sc_stuck.nd
  refine def_ok F0 sc_stuck fun cdv A outer s H E hr => ?_
  have hu65 : (cxOf (L2.CX P w) P w K mg base ["system", "states"] "stuck" (defScope s_stuck) f_ cdv A outer s H E).A.units + 65 < cLine := by have := hr.un; show (A.deeper _).units + 65 < cLine; omega
  have hu64 : (cxOf (L2.CX P w) P w K mg base ["system", "states"] "stuck" (defScope s_stuck) f_ cdv A outer s H E).A.units + 64 < cLine := by omega
  have hu1 : (cxOf (L2.CX P w) P w K mg base ["system", "states"] "stuck" (defScope s_stuck) f_ cdv A outer s H E).A.units + 1 < cLine := by omega
  have tk : Takes (cxOf (L2.CX P w) P w K mg base ["system", "states"] "stuck" (defScope s_stuck) f_ cdv A outer s H E) (fun cls d _ H' => E cls d H') := takes_of rfl rfl rfl rfl
  unfold S_stuck
  exact (sss_one (ss_ret (se_lc (own := [(("states" : Str), 1)]) rfl N (si_seq (SD.of (se_callN rfl G_arising (hr.mono (by decide)) (by rfl) D_arising.m D_arising.F.kp D_arising.b tk (sa_cons (sd_var (pv 0)) sa_nil rfl) (by decide) rfl rfl))) (blkOk_by (by rfl)) (fun _ _ _ _ _ => by exact (sgw_name (pg_name (i := 1) N rfl (by first | exact Or.inl rfl | exact Or.inr rfl)) (by decide))) (fun _ _ _ _ _ => by exact (sts_one (sb_not (sb_t (SD.of (se_callN rfl G_possible (hr.mono (by decide)) (by rfl) D_possible.m D_possible.F.kp D_possible.b tk0 (sa_cons (sd_var (pv 0)) (sa_cons (sd_var (pv 1)) sa_nil rfl) rfl) (by decide) rfl rfl)) (fun _ => rfl))))) (fun _ _ _ _ _ => by exact (sd_var (pv 1))) (fun _ => rfl))))
abbrev s_is_run : Stmt := top 17
theorem sc_is_run : FnScope ["system", "run"] ["system", "run"] (defScope s_is_run) := ⟨rfl, rfl, rfl, by decide +kernel, rfl, by decide +kernel, by decide +kernel⟩
noncomputable def S_is_run : ST := (sRet (e1 (fIsN true) (ed (eCall 2 B_states_behind (aCons (eVar 0) (aCons (eVar 1) aNil))))))
noncomputable def B_is_run : BD := body 2 S_is_run
theorem ok_is_run {f_ : Addr} {fd_ : FuncData} {f_states_behind : Addr} {fd_states_behind : FuncData} (F0 : Fun K "is_run" "is_run" s_is_run f_ fd_) (D_states_behind : Dg K mg "states_behind" "states_behind" s_states_behind ["system", "run"] f_states_behind fd_states_behind) (G_states_behind : FnOk P w K mg base (L2.CX P w) 2 f_states_behind fd_states_behind ["system", "run"] (spB ca 2 B_states_behind)) :
    FnOk P w K mg base (L2.CX P w) 3 f_ fd_ ["system", "run"] (spB ca 2 B_is_run) := by
  have N : (["system", "run"] : List Str).Nodup := sc_is_run.nd
  refine def_ok F0 sc_is_run fun cdv A outer s H E hr => ?_
  have hu65 : (cxOf (L2.CX P w) P w K mg base ["system", "run"] "is_run" (defScope s_is_run) f_ cdv A outer s H E).A.units + 65 < cLine := by have := hr.un; show (A.deeper _).units + 65 < cLine; omega
  have hu64 : (cxOf (L2.CX P w) P w K mg base ["system", "run"] "is_run" (defScope s_is_run) f_ cdv A outer s H E).A.units + 64 < cLine := by omega
  have hu1 : (cxOf (L2.CX P w) P w K mg base ["system", "run"] "is_run" (defScope s_is_run) f_ cdv A outer s H E).A.units + 1 < cLine := by omega
  have tk : Takes (cxOf (L2.CX P w) P w K mg base ["system", "run"] "is_run" (defScope s_is_run) f_ cdv A outer s H E) (fun cls d _ H' => E cls d H') := takes_of rfl rfl rfl rfl
  unfold S_is_run
  exact (sss_one (ss_ret (se_notN (SD.of (se_callN rfl G_states_behind (hr.mono (by decide)) (by rfl) D_states_behind.m D_states_behind.F.kp D_states_behind.b tk (sa_cons (sd_var (pv 0)) (sa_cons (sd_var (pv 1)) sa_nil rfl) rfl) (by decide) rfl rfl)))))
abbrev s_below : Stmt := top 18
theorem sc_below : FnScope ["system", "run", "found", "event", "action", "there", "other", "further"] ["system", "run"] (defScope s_below) := ⟨rfl, rfl, rfl, by decide +kernel, rfl, by decide +kernel, by decide +kernel⟩
noncomputable def S_below : ST := (sSeq (sSet 2 (eAl (eLst aNil)))
  (sSeq (sFor (iEnA (aCons (eVar 1) aNil)) (tTup (tCons (tN 3) (tCons (tN 4) tNil))) (sSeq (sSet 5 (eAl eNewK))
  (sSeq (sFor (iR1 (aCons (eVar 3) aNil)) (tN 6) (sIf (bNot (eT (ed (eCall 3 B_are_apart (aCons (eVar 0) (aCons (ed (e2 fIx (eVar 1) (eVar 6))) (aCons (eVar 4) aNil))))))) (sSeq (sPut (eVar 5) (eVar 6) (eC (.bl true)))
  (sX (ed (eM "dict" fUpd (eVar 5) (aCons (ed (eDC (iSeq (ed (e2 fIx (eVar 2) (eVar 6)))) (tN 7) bYes (eVar 7) (eC (.bl true)) [7])) aNil))))) sPass) [6])
  (sX (ed (eM "list" fAppend (eVar 2) (aCons (ed (eA fTuple (aCons (ed (eA fSorted (aCons (eVar 5) aNil))) aNil))) aNil)))))) [3, 4, 5, 6])
  (sRet (ev (eVar 2)))))
noncomputable def B_below : BD := body 8 S_below
theorem ok_below {f_ : Addr} {fd_ : FuncData} {f_are_apart : Addr} {fd_are_apart : FuncData} (F0 : Fun K "below" "below" s_below f_ fd_) (bt : Bt mg) (D_are_apart : Dg K mg "are_apart" "are_apart" s_are_apart ["system", "first", "second"] f_are_apart fd_are_apart) (G_are_apart : FnOk P w K mg base (L2.CX P w) 2 f_are_apart fd_are_apart ["system", "first", "second"] (spB ca 3 B_are_apart)) :
    FnOk P w K mg base (L2.CX P w) 3 f_ fd_ ["system", "run"] (spB ca 2 B_below) := by
  have N : (["system", "run", "found", "event", "action", "there", "other", "further"] : List Str).Nodup := sc_below.nd
  refine def_ok F0 sc_below fun cdv A outer s H E hr => ?_
  have hu65 : (cxOf (L2.CX P w) P w K mg base ["system", "run", "found", "event", "action", "there", "other", "further"] "below" (defScope s_below) f_ cdv A outer s H E).A.units + 65 < cLine := by have := hr.un; show (A.deeper _).units + 65 < cLine; omega
  have hu64 : (cxOf (L2.CX P w) P w K mg base ["system", "run", "found", "event", "action", "there", "other", "further"] "below" (defScope s_below) f_ cdv A outer s H E).A.units + 64 < cLine := by omega
  have hu1 : (cxOf (L2.CX P w) P w K mg base ["system", "run", "found", "event", "action", "there", "other", "further"] "below" (defScope s_below) f_ cdv A outer s H E).A.units + 1 < cLine := by omega
  have tk : Takes (cxOf (L2.CX P w) P w K mg base ["system", "run", "found", "event", "action", "there", "other", "further"] "below" (defScope s_below) f_ cdv A outer s H E) (fun cls d _ H' => E cls d H') := takes_of rfl rfl rfl rfl
  unfold S_below
  exact (sss_cons (ss_set N rfl (by first | exact Or.inl rfl | exact Or.inr rfl) (sd_al (se_lst sa_nil)) rfl (by first | exact Or.inl rfl | exact Or.inr rfl))
    (sss_cons (ss_for [3, 4, 5, 6] (passes_of rfl) rfl (si_enA (pi_enumA rfl bt.enumerate (sa_cons (sd_var (pv 1)) sa_nil rfl))) (sg_tup rfl (sgs_cons (sg_name (pg_name (i := 3) N rfl (by first | exact Or.inl rfl | exact Or.inr rfl))) (sgs_cons (sg_name (pg_name (i := 4) N rfl (by first | exact Or.inl rfl | exact Or.inr rfl))) sgs_nil rfl) rfl) (len_cons (len_cons len_nil)) rfl rfl) (sss_cons (ss_set N rfl (by first | exact Or.inl rfl | exact Or.inr rfl) (sd_al se_newK) rfl (by first | exact Or.inl rfl | exact Or.inr rfl))
    (sss_cons (ss_for [6] (passes_of rfl) rfl (si_r1 (pi_range1 rfl bt.range (sa_cons (sd_var (pv 3)) sa_nil rfl))) (sg_name (pg_name (i := 6) N rfl (by first | exact Or.inl rfl | exact Or.inr rfl))) (sss_one (ss_if (sb_not (sb_t (SD.of (se_callN rfl G_are_apart (hr.mono (by decide)) (by rfl) D_are_apart.m D_are_apart.F.kp D_are_apart.b tk (sa_cons (sd_var (pv 0)) (sa_cons (SD.of (se_ix hu1 (sd_var (pv 1)) (sd_var (pv 6)) (fun _ _ => rfl))) (sa_cons (sd_var (pv 4)) sa_nil rfl) rfl) rfl) (by decide) rfl rfl)) (fun _ => rfl))) (sss_cons (ss_put hu1 (sd_var (pv 5)) (sd_var (pv 6)) sd_bl (fun _ => rfl) rfl rfl rfl)
    (sss_one (ss_expr (SD.of (se_m (pe_bm PySem.F.plainAttrs_dict PySem.F.slot_dict_update PySem.F.type_dict_update mt_dupd (sd_var (pv 5)) (sa_cons (SD.of (se_dc (own := [(("further" : Str), 7)]) rfl N (si_seq (SD.of (se_ix hu1 (sd_var (pv 2)) (sd_var (pv 6)) (fun _ _ => rfl)))) (blkOk_by (by rfl)) (fun _ _ _ _ _ => by exact (sgw_name (pg_name (i := 7) N rfl (by first | exact Or.inl rfl | exact Or.inr rfl)) (by decide))) (fun _ _ _ _ _ => by exact sts_nil) (fun _ _ _ _ _ => by exact (sd_var (pv 7))) (fun _ _ _ _ _ => by exact sd_bl) (fun _ => rfl))) sa_nil rfl)) lk_upd)) rfl))) sss_nil)) (fun _ => rfl))
    (sss_one (ss_expr (SD.of (se_m (pe_bm PySem.F.plainAttrs_list PySem.F.slot_list_append PySem.F.type_list_append mt_append (sd_var (pv 2)) (sa_cons (SD.of (se_b (pe_callTy call_tuple_of rfl bt.tuple b_tuple (sa_cons (SD.of (se_b (pe_callB (cr_sorted' rfl) rfl bt.sorted b_sorted (sa_cons (sd_var (pv 5)) sa_nil rfl)) lk_sorted)) sa_nil rfl)) lk_tuple)) sa_nil rfl)) lk_append)) rfl)))) (fun _ => rfl))
    (sss_one (ss_ret (SE.of (sd_var (pv 2)))))))
abbrev s__law_lower : Stmt := top 29
theorem sc__law_lower : FnScope ["system", "run", "found", "k", "there", "j", "other"] ["system", "run"] (defScope s__law_lower) := ⟨rfl, rfl, rfl, by decide +kernel, rfl, by decide +kernel, by decide +kernel⟩
noncomputable def S__law_lower : ST := (sSeq (sSet 2 (eAl (eLst aNil)))
  (sSeq (sFor (iR1 (aCons (ed (eA fLen (aCons (eVar 1) aNil))) aNil)) (tN 3) (sSeq (sSet 4 (eAl eNewK))
  (sSeq (sFor (iR1 (aCons (eVar 3) aNil)) (tN 5) (sIf (bNot (eT (ed (eCall 3 B__law_apart (aCons (eVar 0) (aCons (ed (e2 fIx (eVar 1) (eVar 5))) (aCons (ed (e2 fIx (eVar 1) (eVar 3))) aNil))))))) (sSeq (sPut (eVar 4) (eVar 5) (eC (.bl true)))
  (sFor (iSeq (ed (e2 fIx (eVar 2) (eVar 5)))) (tN 6) (sPut (eVar 4) (eVar 6) (eC (.bl true))) [6])) sPass) [5, 6])
  (sX (ed (eM "list" fAppend (eVar 2) (aCons (ed (eA fTuple (aCons (ed (eA fSorted (aCons (eVar 4) aNil))) aNil))) aNil)))))) [3, 4, 5, 6])
  (sRet (ev (eVar 2)))))
noncomputable def B__law_lower : BD := body 7 S__law_lower
theorem ok__law_lower {f_ : Addr} {fd_ : FuncData} {f__law_apart : Addr} {fd__law_apart : FuncData} (F0 : Fun K "_law_lower" "_law_lower" s__law_lower f_ fd_) (bt : Bt mg) (D__law_apart : Dg K mg "_law_apart" "_law_apart" s__law_apart ["system", "one", "other"] f__law_apart fd__law_apart) (G__law_apart : FnOk P w K mg base (L2.CX P w) 2 f__law_apart fd__law_apart ["system", "one", "other"] (spB ca 3 B__law_apart)) :
    FnOk P w K mg base (L2.CX P w) 3 f_ fd_ ["system", "run"] (spB ca 2 B__law_lower) := by
  have N : (["system", "run", "found", "k", "there", "j", "other"] : List Str).Nodup := sc__law_lower.nd
  refine def_ok F0 sc__law_lower fun cdv A outer s H E hr => ?_
  have hu65 : (cxOf (L2.CX P w) P w K mg base ["system", "run", "found", "k", "there", "j", "other"] "_law_lower" (defScope s__law_lower) f_ cdv A outer s H E).A.units + 65 < cLine := by have := hr.un; show (A.deeper _).units + 65 < cLine; omega
  have hu64 : (cxOf (L2.CX P w) P w K mg base ["system", "run", "found", "k", "there", "j", "other"] "_law_lower" (defScope s__law_lower) f_ cdv A outer s H E).A.units + 64 < cLine := by omega
  have hu1 : (cxOf (L2.CX P w) P w K mg base ["system", "run", "found", "k", "there", "j", "other"] "_law_lower" (defScope s__law_lower) f_ cdv A outer s H E).A.units + 1 < cLine := by omega
  have tk : Takes (cxOf (L2.CX P w) P w K mg base ["system", "run", "found", "k", "there", "j", "other"] "_law_lower" (defScope s__law_lower) f_ cdv A outer s H E) (fun cls d _ H' => E cls d H') := takes_of rfl rfl rfl rfl
  unfold S__law_lower
  exact (sss_cons (ss_set N rfl (by first | exact Or.inl rfl | exact Or.inr rfl) (sd_al (se_lst sa_nil)) rfl (by first | exact Or.inl rfl | exact Or.inr rfl))
    (sss_cons (ss_for [3, 4, 5, 6] (passes_of rfl) rfl (si_r1 (pi_range1 rfl bt.range (sa_cons (SD.of (se_b (pe_callB cr_len rfl bt.len b_len (sa_cons (sd_var (pv 1)) sa_nil rfl)) lk_len)) sa_nil rfl))) (sg_name (pg_name (i := 3) N rfl (by first | exact Or.inl rfl | exact Or.inr rfl))) (sss_cons (ss_set N rfl (by first | exact Or.inl rfl | exact Or.inr rfl) (sd_al se_newK) rfl (by first | exact Or.inl rfl | exact Or.inr rfl))
    (sss_cons (ss_for [5, 6] (passes_of rfl) rfl (si_r1 (pi_range1 rfl bt.range (sa_cons (sd_var (pv 3)) sa_nil rfl))) (sg_name (pg_name (i := 5) N rfl (by first | exact Or.inl rfl | exact Or.inr rfl))) (sss_one (ss_if (sb_not (sb_t (SD.of (se_callN rfl G__law_apart (hr.mono (by decide)) (by rfl) D__law_apart.m D__law_apart.F.kp D__law_apart.b tk (sa_cons (sd_var (pv 0)) (sa_cons (SD.of (se_ix hu1 (sd_var (pv 1)) (sd_var (pv 5)) (fun _ _ => rfl))) (sa_cons (SD.of (se_ix hu1 (sd_var (pv 1)) (sd_var (pv 3)) (fun _ _ => rfl))) sa_nil rfl) rfl) rfl) (by decide) rfl rfl)) (fun _ => rfl))) (sss_cons (ss_put hu1 (sd_var (pv 4)) (sd_var (pv 5)) sd_bl (fun _ => rfl) rfl rfl rfl)
    (sss_one (ss_for [6] (passes_of rfl) rfl (si_seq (SD.of (se_ix hu1 (sd_var (pv 2)) (sd_var (pv 5)) (fun _ _ => rfl)))) (sg_name (pg_name (i := 6) N rfl (by first | exact Or.inl rfl | exact Or.inr rfl))) (sss_one (ss_put hu1 (sd_var (pv 4)) (sd_var (pv 6)) sd_bl (fun _ => rfl) rfl rfl rfl)) (fun _ => rfl)))) sss_nil)) (fun _ => rfl))
    (sss_one (ss_expr (SD.of (se_m (pe_bm PySem.F.plainAttrs_list PySem.F.slot_list_append PySem.F.type_list_append mt_append (sd_var (pv 2)) (sa_cons (SD.of (se_b (pe_callTy call_tuple_of rfl bt.tuple b_tuple (sa_cons (SD.of (se_b (pe_callB (cr_sorted' rfl) rfl bt.sorted b_sorted (sa_cons (sd_var (pv 4)) sa_nil rfl)) lk_sorted)) sa_nil rfl)) lk_tuple)) sa_nil rfl)) lk_append)) rfl)))) (fun _ => rfl))
    (sss_one (ss_ret (SE.of (sd_var (pv 2)))))))
abbrev s__law_made : Stmt := top 30
theorem sc__law_made : FnScope ["system", "label", "moves"] ["system"] (defScope s__law_made) := ⟨rfl, rfl, rfl, by decide +kernel, rfl, by decide +kernel, by decide +kernel⟩
noncomputable def S__law_made : ST := (sRet (eMkX 0 4 B_System___init__ (aCons (ed (eA fList (aCons (ed (e2 fIx (eVar 0) (eC (.int 0)))) aNil))) (aCons (ed (eA fList (aCons (ed (e2 fIx (eVar 0) (eC (.int 1)))) aNil))) (aCons (ed (eComp (iSeq (ed (e2 fIx (eVar 0) (eC (.int 2))))) (tTup (tCons (tN 1) (tCons (tN 2) tNil))) bYes (eTup (aCons (eVar 1) (aCons (ed (eA fList (aCons (eVar 2) aNil))) aNil))) [1, 2])) aNil)))))
noncomputable def B__law_made : BD := body 3 S__law_made
theorem ok__law_made {f_ : Addr} {fd_ : FuncData} {f_System C_System_ : Addr} {fd_System : FuncData} (F0 : Fun K "_law_made" "_law_made" s__law_made f_ fd_) (bt : Bt mg) (M_System : Mf K mg ca "System" 0 ["self", "sizes", "starts", "actions"] C_System_ f_System fd_System) (G_System : FnOk P w K mg base (L2.CX P w) 2 f_System fd_System ["self", "sizes", "starts", "actions"] (spB ca 4 B_System___init__)) :
    FnOk P w K mg base (L2.CX P w) 4 f_ fd_ ["system"] (spB ca 1 B__law_made) := by
  have N : (["system", "label", "moves"] : List Str).Nodup := sc__law_made.nd
  refine def_ok F0 sc__law_made fun cdv A outer s H E hr => ?_
  have hu65 : (cxOf (L2.CX P w) P w K mg base ["system", "label", "moves"] "_law_made" (defScope s__law_made) f_ cdv A outer s H E).A.units + 65 < cLine := by have := hr.un; show (A.deeper _).units + 65 < cLine; omega
  have hu64 : (cxOf (L2.CX P w) P w K mg base ["system", "label", "moves"] "_law_made" (defScope s__law_made) f_ cdv A outer s H E).A.units + 64 < cLine := by omega
  have hu1 : (cxOf (L2.CX P w) P w K mg base ["system", "label", "moves"] "_law_made" (defScope s__law_made) f_ cdv A outer s H E).A.units + 1 < cLine := by omega
  have tk : Takes (cxOf (L2.CX P w) P w K mg base ["system", "label", "moves"] "_law_made" (defScope s__law_made) f_ cdv A outer s H E) (fun cls d _ H' => E cls d H') := takes_of rfl rfl rfl rfl
  unfold S__law_made
  exact (sss_one (ss_ret (se_mkX (cn := 0) rfl M_System.ad M_System.mkk G_System (hr.mono (by decide)) (by rfl) M_System.m M_System.b tk (sa_cons (SD.of (se_b (pe_callTy call_list_of rfl bt.list b_list (sa_cons (SD.of (se_ix hu1 (sd_var (pv 0)) sd_int (fun _ _ => rfl))) sa_nil rfl)) lk_list)) (sa_cons (SD.of (se_b (pe_callTy call_list_of rfl bt.list b_list (sa_cons (SD.of (se_ix hu1 (sd_var (pv 0)) sd_int (fun _ _ => rfl))) sa_nil rfl)) lk_list)) (sa_cons (SD.of (se_lc (own := [(("label" : Str), 1), (("moves" : Str), 2)]) rfl N (si_seq (SD.of (se_ix hu1 (sd_var (pv 0)) sd_int (fun _ _ => rfl)))) (blkOk_by (by rfl)) (fun _ _ _ _ _ => by exact (sgw_tup rfl (sgws_cons (sgw_name (pg_name (i := 1) N rfl (by first | exact Or.inl rfl | exact Or.inr rfl)) (by decide)) (sgws_cons (sgw_name (pg_name (i := 2) N rfl (by first | exact Or.inl rfl | exact Or.inr rfl)) (by decide)) sgws_nil rfl) rfl) (len_cons (len_cons len_nil)) rfl rfl)) (fun _ _ _ _ _ => by exact sts_nil) (fun _ _ _ _ _ => by exact (sd_tup (sa_cons (sd_var (pv 1)) (sa_cons (SD.of (se_b (pe_callTy call_list_of rfl bt.list b_list (sa_cons (sd_var (pv 2)) sa_nil rfl)) lk_list)) sa_nil rfl) rfl))) (fun _ => rfl))) sa_nil rfl) rfl) rfl) (by decide) rfl rfl)))
abbrev s__law_is_refused : Stmt := top 33
theorem sc__law_is_refused : FnScope ["sizes", "starts", "deeds"] ["sizes", "starts", "deeds"] (defScope s__law_is_refused) := ⟨rfl, rfl, rfl, by decide +kernel, rfl, by decide +kernel, by decide +kernel⟩
noncomputable def S__law_is_refused : ST := (sSeq (sTry [1] (sX (ed (eMkX 0 4 B_System___init__ (aCons (eVar 0) (aCons (eVar 1) (aCons (eVar 2) aNil)))))) (sRet (ev (eC (.bl true)))))
  (sRet (ev (eC (.bl false)))))
noncomputable def B__law_is_refused : BD := body 3 S__law_is_refused
theorem ok__law_is_refused {f_ : Addr} {fd_ : FuncData} {f_System C_System_ : Addr} {fd_System : FuncData} (F0 : Fun K "_law_is_refused" "_law_is_refused" s__law_is_refused f_ fd_) (Ex_InvalidSystem : ExF K mg ca "InvalidSystem" 1) (M_System : Mf K mg ca "System" 0 ["self", "sizes", "starts", "actions"] C_System_ f_System fd_System) (G_System : FnOk P w K mg base (L2.CX P w) 2 f_System fd_System ["self", "sizes", "starts", "actions"] (spB ca 4 B_System___init__)) :
    FnOk P w K mg base (L2.CX P w) 4 f_ fd_ ["sizes", "starts", "deeds"] (spB ca 3 B__law_is_refused) := by
  have N : (["sizes", "starts", "deeds"] : List Str).Nodup := sc__law_is_refused.nd
  refine def_ok F0 sc__law_is_refused fun cdv A outer s H E hr => ?_
  have hu65 : (cxOf (L2.CX P w) P w K mg base ["sizes", "starts", "deeds"] "_law_is_refused" (defScope s__law_is_refused) f_ cdv A outer s H E).A.units + 65 < cLine := by have := hr.un; show (A.deeper _).units + 65 < cLine; omega
  have hu64 : (cxOf (L2.CX P w) P w K mg base ["sizes", "starts", "deeds"] "_law_is_refused" (defScope s__law_is_refused) f_ cdv A outer s H E).A.units + 64 < cLine := by omega
  have hu1 : (cxOf (L2.CX P w) P w K mg base ["sizes", "starts", "deeds"] "_law_is_refused" (defScope s__law_is_refused) f_ cdv A outer s H E).A.units + 1 < cLine := by omega
  have tk : Takes (cxOf (L2.CX P w) P w K mg base ["sizes", "starts", "deeds"] "_law_is_refused" (defScope s__law_is_refused) f_ cdv A outer s H E) (fun cls d _ H' => E cls d H') := takes_of rfl rfl rfl rfl
  unfold S__law_is_refused
  exact (sss_cons (ss_try (cs := [1]) rfl rfl ⟨rfl, by decide, .inl Ex_InvalidSystem.g⟩ (fun c hc => by rw [List.mem_singleton.mp hc]; exact Ex_InvalidSystem.em) (fun W pn xe tk => by exact (sss_one (ss_expr (SD.of (se_mkX (cn := 0) rfl M_System.ad M_System.mkk G_System (hr.mono (by decide)) (by rfl) M_System.m M_System.b tk (sa_cons (sd_var (pv 0)) (sa_cons (sd_var (pv 1)) (sa_cons (sd_var (pv 2)) sa_nil rfl) rfl) rfl) (by decide) rfl rfl)) rfl))) (fun a pn => by exact (sss_one (ss_ret (SE.of sd_bl)))))
    (sss_one (ss_ret (SE.of sd_bl))))
abbrev s__law_faults_right : Stmt := top 34
theorem sc__law_faults_right : FnScope ["draws", "one", "rows", "sizes", "starts", "deeds"] ["draws"] (defScope s__law_faults_right) := ⟨rfl, rfl, rfl, by decide +kernel, rfl, by decide +kernel, by decide +kernel⟩
noncomputable def S__law_faults_right : ST := (sSeq (sSet 1 (eTup (aCons (eC (.int 0)) (aCons (ed (eLst (aCons (eTup (aCons (eC (.int 0)) (aCons (eC (.int 0)) (aCons (eC (.int 0)) aNil)))) aNil))) aNil))))
  (sSeq (sSet 2 (eTup (aCons (eTup (aCons (ed (eLst aNil)) (aCons (ed (eLst aNil)) (aCons (ed (eLst aNil)) aNil)))) (aCons (eTup (aCons (ed (e2 fMulA (ed (eLst (aCons (eC (.int 1)) aNil))) (eC (.int 5)))) (aCons (ed (e2 fMulA (ed (eLst (aCons (eC (.int 0)) aNil))) (eC (.int 5)))) (aCons (ed (eLst aNil)) aNil)))) (aCons (eTup (aCons (ed (eLst (aCons (eC (.int 0)) aNil))) (aCons (ed (eLst (aCons (eC (.int 0)) aNil))) (aCons (ed (eLst aNil)) aNil)))) (aCons (eTup (aCons (ed (eLst (aCons (eC (.int 6)) aNil))) (aCons (ed (eLst (aCons (eC (.int 0)) aNil))) (aCons (ed (eLst aNil)) aNil)))) (aCons (eTup (aCons (ed (eLst (aCons (eC (.int 2)) aNil))) (aCons (ed (eLst (aCons (eC (.int 2)) aNil))) (aCons (ed (eLst aNil)) aNil)))) (aCons (eTup (aCons (ed (eLst (aCons (eC (.int 2)) (aCons (eC (.int 2)) aNil)))) (aCons (ed (eLst (aCons (eC (.int 0)) aNil))) (aCons (ed (eLst aNil)) aNil)))) (aCons (eTup (aCons (ed (eLst (aCons (eC (.int 2)) aNil))) (aCons (ed (eLst (aCons (ed (e2 fSub (eC (.int 0)) (eC (.int 1)))) aNil))) (aCons (ed (eLst aNil)) aNil)))) (aCons (eTup (aCons (ed (eLst (aCons (eC (.int 1)) aNil))) (aCons (ed (eLst (aCons (eC (.int 0)) aNil))) (aCons (ed (e2 fMulA (ed (eLst (aCons (eVar 1) aNil))) (eC (.int 25)))) aNil)))) (aCons (eTup (aCons (ed (eLst (aCons (eC (.int 1)) aNil))) (aCons (ed (eLst (aCons (eC (.int 0)) aNil))) (aCons (ed (eLst (aCons (eTup (aCons (eC (.int 6)) (aCons (ed (eLst (aCons (eTup (aCons (eC (.int 0)) (aCons (eC (.int 0)) (aCons (eC (.int 0)) aNil)))) aNil))) aNil))) aNil))) aNil)))) (aCons (eTup (aCons (ed (eLst (aCons (eC (.int 1)) aNil))) (aCons (ed (eLst (aCons (eC (.int 0)) aNil))) (aCons (ed (eLst (aCons (eTup (aCons (ed (e2 fSub (eC (.int 0)) (eC (.int 1)))) (aCons (ed (eLst (aCons (eTup (aCons (eC (.int 0)) (aCons (eC (.int 0)) (aCons (eC (.int 0)) aNil)))) aNil))) aNil))) aNil))) aNil)))) (aCons (eTup (aCons (ed (eLst (aCons (eC (.int 1)) aNil))) (aCons (ed (eLst (aCons (eC (.int 0)) aNil))) (aCons (ed (eLst (aCons (eTup (aCons (eC (.int 0)) (aCons (ed (eLst aNil)) aNil))) aNil))) aNil)))) (aCons (eTup (aCons (ed (eLst (aCons (eC (.int 1)) aNil))) (aCons (ed (eLst (aCons (eC (.int 0)) aNil))) (aCons (ed (eLst (aCons (eTup (aCons (eC (.int 0)) (aCons (ed (eLst (aCons (eTup (aCons (eC (.int 1)) (aCons (eC (.int 0)) (aCons (eC (.int 0)) aNil)))) aNil))) aNil))) aNil))) aNil)))) (aCons (eTup (aCons (ed (eLst (aCons (eC (.int 1)) aNil))) (aCons (ed (eLst (aCons (eC (.int 0)) aNil))) (aCons (ed (eLst (aCons (eTup (aCons (eC (.int 0)) (aCons (ed (eLst (aCons (eTup (aCons (eC (.int 0)) (aCons (eC (.int 1)) (aCons (eC (.int 0)) aNil)))) aNil))) aNil))) aNil))) aNil)))) (aCons (eTup (aCons (ed (eLst (aCons (eC (.int 1)) aNil))) (aCons (ed (eLst (aCons (eC (.int 0)) aNil))) (aCons (ed (eLst (aCons (eTup (aCons (eC (.int 0)) (aCons (ed (eLst (aCons (eTup (aCons (eC (.int 0)) (aCons (eC (.int 0)) (aCons (eC (.int 1)) aNil)))) aNil))) aNil))) aNil))) aNil)))) (aCons (eTup (aCons (ed (eLst (aCons (eC (.int 1)) (aCons (eC (.int 1)) aNil)))) (aCons (ed (eLst (aCons (eC (.int 0)) (aCons (eC (.int 0)) aNil)))) (aCons (ed (eLst (aCons (eTup (aCons (eC (.int 0)) (aCons (ed (eLst (aCons (eTup (aCons (eC (.int 1)) (aCons (eC (.int 0)) (aCons (eC (.int 0)) aNil)))) (aCons (eTup (aCons (eC (.int 0)) (aCons (eC (.int 0)) (aCons (eC (.int 0)) aNil)))) aNil)))) aNil))) aNil))) aNil)))) (aCons (eTup (aCons (ed (eLst (aCons (eC (.int 1)) (aCons (eC (.int 1)) aNil)))) (aCons (ed (eLst (aCons (eC (.int 0)) (aCons (eC (.int 0)) aNil)))) (aCons (ed (eLst (aCons (eTup (aCons (eC (.int 0)) (aCons (ed (eLst (aCons (eTup (aCons (eC (.int 0)) (aCons (eC (.int 0)) (aCons (eC (.int 0)) aNil)))) (aCons (eTup (aCons (eC (.int 0)) (aCons (eC (.int 0)) (aCons (eC (.int 0)) aNil)))) aNil)))) aNil))) aNil))) aNil)))) aNil))))))))))))))))))
  (sSeq (sA (ed (e2 fIx (eVar 2) (ed (eCall 2 B__law_take (aCons (eVar 0) (aCons (eC (.int 16)) aNil)))))) (tTup (tCons (tN 3) (tCons (tN 4) (tCons (tN 5) tNil)))))
  (sRet (ev (vAnd (ed (eCall 3 B__law_is_refused (aCons (eVar 3) (aCons (eVar 4) (aCons (eVar 5) aNil))))) (ed (e1 fNotB (ed (eCall 3 B__law_is_refused (aCons (ed (e2 fMulA (ed (eLst (aCons (eC (.int 5)) aNil))) (eC (.int 4)))) (aCons (ed (e2 fMulA (ed (eLst (aCons (eC (.int 4)) aNil))) (eC (.int 4)))) (aCons (ed (e2 fMulA (ed (eLst (aCons (eTup (aCons (eC (.int 5)) (aCons (ed (eLst (aCons (eTup (aCons (eC (.int 3)) (aCons (eC (.int 4)) (aCons (eC (.int 4)) aNil)))) aNil))) aNil))) aNil))) (eC (.int 24)))) aNil)))))))))))))
noncomputable def B__law_faults_right : BD := body 6 S__law_faults_right
theorem ok__law_faults_right {f_ : Addr} {fd_ : FuncData} {f__law_take : Addr} {fd__law_take : FuncData} {f__law_is_refused : Addr} {fd__law_is_refused : FuncData} (F0 : Fun K "_law_faults_right" "_law_faults_right" s__law_faults_right f_ fd_) (D__law_take : Dg K mg "_law_take" "_law_take" s__law_take ["draws", "limit"] f__law_take fd__law_take) (G__law_take : FnOk P w K mg base (L2.CX P w) 1 f__law_take fd__law_take ["draws", "limit"] (spB ca 2 B__law_take)) (D__law_is_refused : Dg K mg "_law_is_refused" "_law_is_refused" s__law_is_refused ["sizes", "starts", "deeds"] f__law_is_refused fd__law_is_refused) (G__law_is_refused : FnOk P w K mg base (L2.CX P w) 4 f__law_is_refused fd__law_is_refused ["sizes", "starts", "deeds"] (spB ca 3 B__law_is_refused)) :
    FnOk P w K mg base (L2.CX P w) 5 f_ fd_ ["draws"] (spB ca 1 B__law_faults_right) := by
  have N : (["draws", "one", "rows", "sizes", "starts", "deeds"] : List Str).Nodup := sc__law_faults_right.nd
  refine def_ok F0 sc__law_faults_right fun cdv A outer s H E hr => ?_
  have hu65 : (cxOf (L2.CX P w) P w K mg base ["draws", "one", "rows", "sizes", "starts", "deeds"] "_law_faults_right" (defScope s__law_faults_right) f_ cdv A outer s H E).A.units + 65 < cLine := by have := hr.un; show (A.deeper _).units + 65 < cLine; omega
  have hu64 : (cxOf (L2.CX P w) P w K mg base ["draws", "one", "rows", "sizes", "starts", "deeds"] "_law_faults_right" (defScope s__law_faults_right) f_ cdv A outer s H E).A.units + 64 < cLine := by omega
  have hu1 : (cxOf (L2.CX P w) P w K mg base ["draws", "one", "rows", "sizes", "starts", "deeds"] "_law_faults_right" (defScope s__law_faults_right) f_ cdv A outer s H E).A.units + 1 < cLine := by omega
  have tk : Takes (cxOf (L2.CX P w) P w K mg base ["draws", "one", "rows", "sizes", "starts", "deeds"] "_law_faults_right" (defScope s__law_faults_right) f_ cdv A outer s H E) (fun cls d _ H' => E cls d H') := takes_of rfl rfl rfl rfl
  unfold S__law_faults_right
  exact (sss_cons (ss_set N rfl (by first | exact Or.inl rfl | exact Or.inr rfl) (sd_tup (sa_cons sd_int (sa_cons (SD.of (se_lst (sa_cons (sd_tup (sa_cons sd_int (sa_cons sd_int (sa_cons sd_int sa_nil rfl) rfl) rfl)) sa_nil rfl))) sa_nil rfl) rfl)) rfl (by first | exact Or.inl rfl | exact Or.inr rfl))
    (sss_cons (ss_set N rfl (by first | exact Or.inl rfl | exact Or.inr rfl) (sd_tup (sa_cons (sd_tup (sa_cons (SD.of (se_lst sa_nil)) (sa_cons (SD.of (se_lst sa_nil)) (sa_cons (SD.of (se_lst sa_nil)) sa_nil rfl) rfl) rfl)) (sa_cons (sd_tup (sa_cons (SD.of (se_op op_mulA lk_mulA (SD.of (se_lst (sa_cons sd_int sa_nil rfl))) sd_int)) (sa_cons (SD.of (se_op op_mulA lk_mulA (SD.of (se_lst (sa_cons sd_int sa_nil rfl))) sd_int)) (sa_cons (SD.of (se_lst sa_nil)) sa_nil rfl) rfl) rfl)) (sa_cons (sd_tup (sa_cons (SD.of (se_lst (sa_cons sd_int sa_nil rfl))) (sa_cons (SD.of (se_lst (sa_cons sd_int sa_nil rfl))) (sa_cons (SD.of (se_lst sa_nil)) sa_nil rfl) rfl) rfl)) (sa_cons (sd_tup (sa_cons (SD.of (se_lst (sa_cons sd_int sa_nil rfl))) (sa_cons (SD.of (se_lst (sa_cons sd_int sa_nil rfl))) (sa_cons (SD.of (se_lst sa_nil)) sa_nil rfl) rfl) rfl)) (sa_cons (sd_tup (sa_cons (SD.of (se_lst (sa_cons sd_int sa_nil rfl))) (sa_cons (SD.of (se_lst (sa_cons sd_int sa_nil rfl))) (sa_cons (SD.of (se_lst sa_nil)) sa_nil rfl) rfl) rfl)) (sa_cons (sd_tup (sa_cons (SD.of (se_lst (sa_cons sd_int (sa_cons sd_int sa_nil rfl) rfl))) (sa_cons (SD.of (se_lst (sa_cons sd_int sa_nil rfl))) (sa_cons (SD.of (se_lst sa_nil)) sa_nil rfl) rfl) rfl)) (sa_cons (sd_tup (sa_cons (SD.of (se_lst (sa_cons sd_int sa_nil rfl))) (sa_cons (SD.of (se_lst (sa_cons (SD.of (se_op op_sub lk_sub sd_int sd_int)) sa_nil rfl))) (sa_cons (SD.of (se_lst sa_nil)) sa_nil rfl) rfl) rfl)) (sa_cons (sd_tup (sa_cons (SD.of (se_lst (sa_cons sd_int sa_nil rfl))) (sa_cons (SD.of (se_lst (sa_cons sd_int sa_nil rfl))) (sa_cons (SD.of (se_op op_mulA lk_mulA (SD.of (se_lst (sa_cons (sd_var (pv 1)) sa_nil rfl))) sd_int)) sa_nil rfl) rfl) rfl)) (sa_cons (sd_tup (sa_cons (SD.of (se_lst (sa_cons sd_int sa_nil rfl))) (sa_cons (SD.of (se_lst (sa_cons sd_int sa_nil rfl))) (sa_cons (SD.of (se_lst (sa_cons (sd_tup (sa_cons sd_int (sa_cons (SD.of (se_lst (sa_cons (sd_tup (sa_cons sd_int (sa_cons sd_int (sa_cons sd_int sa_nil rfl) rfl) rfl)) sa_nil rfl))) sa_nil rfl) rfl)) sa_nil rfl))) sa_nil rfl) rfl) rfl)) (sa_cons (sd_tup (sa_cons (SD.of (se_lst (sa_cons sd_int sa_nil rfl))) (sa_cons (SD.of (se_lst (sa_cons sd_int sa_nil rfl))) (sa_cons (SD.of (se_lst (sa_cons (sd_tup (sa_cons (SD.of (se_op op_sub lk_sub sd_int sd_int)) (sa_cons (SD.of (se_lst (sa_cons (sd_tup (sa_cons sd_int (sa_cons sd_int (sa_cons sd_int sa_nil rfl) rfl) rfl)) sa_nil rfl))) sa_nil rfl) rfl)) sa_nil rfl))) sa_nil rfl) rfl) rfl)) (sa_cons (sd_tup (sa_cons (SD.of (se_lst (sa_cons sd_int sa_nil rfl))) (sa_cons (SD.of (se_lst (sa_cons sd_int sa_nil rfl))) (sa_cons (SD.of (se_lst (sa_cons (sd_tup (sa_cons sd_int (sa_cons (SD.of (se_lst sa_nil)) sa_nil rfl) rfl)) sa_nil rfl))) sa_nil rfl) rfl) rfl)) (sa_cons (sd_tup (sa_cons (SD.of (se_lst (sa_cons sd_int sa_nil rfl))) (sa_cons (SD.of (se_lst (sa_cons sd_int sa_nil rfl))) (sa_cons (SD.of (se_lst (sa_cons (sd_tup (sa_cons sd_int (sa_cons (SD.of (se_lst (sa_cons (sd_tup (sa_cons sd_int (sa_cons sd_int (sa_cons sd_int sa_nil rfl) rfl) rfl)) sa_nil rfl))) sa_nil rfl) rfl)) sa_nil rfl))) sa_nil rfl) rfl) rfl)) (sa_cons (sd_tup (sa_cons (SD.of (se_lst (sa_cons sd_int sa_nil rfl))) (sa_cons (SD.of (se_lst (sa_cons sd_int sa_nil rfl))) (sa_cons (SD.of (se_lst (sa_cons (sd_tup (sa_cons sd_int (sa_cons (SD.of (se_lst (sa_cons (sd_tup (sa_cons sd_int (sa_cons sd_int (sa_cons sd_int sa_nil rfl) rfl) rfl)) sa_nil rfl))) sa_nil rfl) rfl)) sa_nil rfl))) sa_nil rfl) rfl) rfl)) (sa_cons (sd_tup (sa_cons (SD.of (se_lst (sa_cons sd_int sa_nil rfl))) (sa_cons (SD.of (se_lst (sa_cons sd_int sa_nil rfl))) (sa_cons (SD.of (se_lst (sa_cons (sd_tup (sa_cons sd_int (sa_cons (SD.of (se_lst (sa_cons (sd_tup (sa_cons sd_int (sa_cons sd_int (sa_cons sd_int sa_nil rfl) rfl) rfl)) sa_nil rfl))) sa_nil rfl) rfl)) sa_nil rfl))) sa_nil rfl) rfl) rfl)) (sa_cons (sd_tup (sa_cons (SD.of (se_lst (sa_cons sd_int (sa_cons sd_int sa_nil rfl) rfl))) (sa_cons (SD.of (se_lst (sa_cons sd_int (sa_cons sd_int sa_nil rfl) rfl))) (sa_cons (SD.of (se_lst (sa_cons (sd_tup (sa_cons sd_int (sa_cons (SD.of (se_lst (sa_cons (sd_tup (sa_cons sd_int (sa_cons sd_int (sa_cons sd_int sa_nil rfl) rfl) rfl)) (sa_cons (sd_tup (sa_cons sd_int (sa_cons sd_int (sa_cons sd_int sa_nil rfl) rfl) rfl)) sa_nil rfl) rfl))) sa_nil rfl) rfl)) sa_nil rfl))) sa_nil rfl) rfl) rfl)) (sa_cons (sd_tup (sa_cons (SD.of (se_lst (sa_cons sd_int (sa_cons sd_int sa_nil rfl) rfl))) (sa_cons (SD.of (se_lst (sa_cons sd_int (sa_cons sd_int sa_nil rfl) rfl))) (sa_cons (SD.of (se_lst (sa_cons (sd_tup (sa_cons sd_int (sa_cons (SD.of (se_lst (sa_cons (sd_tup (sa_cons sd_int (sa_cons sd_int (sa_cons sd_int sa_nil rfl) rfl) rfl)) (sa_cons (sd_tup (sa_cons sd_int (sa_cons sd_int (sa_cons sd_int sa_nil rfl) rfl) rfl)) sa_nil rfl) rfl))) sa_nil rfl) rfl)) sa_nil rfl))) sa_nil rfl) rfl) rfl)) sa_nil rfl) rfl) rfl) rfl) rfl) rfl) rfl) rfl) rfl) rfl) rfl) rfl) rfl) rfl) rfl) rfl)) rfl (by first | exact Or.inl rfl | exact Or.inr rfl))
    (sss_cons (ss_asg (SD.of (se_ix hu1 (sd_var (pv 2)) (SD.of (se_callN rfl G__law_take (hr.mono (by decide)) (by rfl) D__law_take.m D__law_take.F.kp D__law_take.b tk (sa_cons (sd_var (pv 0)) (sa_cons sd_int sa_nil rfl) rfl) (by decide) rfl rfl)) (fun _ _ => rfl))) (sg_tup rfl (sgs_cons (sg_name (pg_name (i := 3) N rfl (by first | exact Or.inl rfl | exact Or.inr rfl))) (sgs_cons (sg_name (pg_name (i := 4) N rfl (by first | exact Or.inl rfl | exact Or.inr rfl))) (sgs_cons (sg_name (pg_name (i := 5) N rfl (by first | exact Or.inl rfl | exact Or.inr rfl))) sgs_nil rfl) rfl) rfl) (len_cons (len_cons (len_cons len_nil))) rfl rfl) rfl rfl rfl)
    (sss_one (ss_ret (SE.of (sd_and (SD.of (se_callN rfl G__law_is_refused (hr.mono (by decide)) (by rfl) D__law_is_refused.m D__law_is_refused.F.kp D__law_is_refused.b tk (sa_cons (sd_var (pv 3)) (sa_cons (sd_var (pv 4)) (sa_cons (sd_var (pv 5)) sa_nil rfl) rfl) rfl) (by decide) rfl rfl)) (sd_one (SD.of (se_not (SD.of (se_callN rfl G__law_is_refused (hr.mono (by decide)) (by rfl) D__law_is_refused.m D__law_is_refused.F.kp D__law_is_refused.b tk (sa_cons (SD.of (se_op op_mulA lk_mulA (SD.of (se_lst (sa_cons sd_int sa_nil rfl))) sd_int)) (sa_cons (SD.of (se_op op_mulA lk_mulA (SD.of (se_lst (sa_cons sd_int sa_nil rfl))) sd_int)) (sa_cons (SD.of (se_op op_mulA lk_mulA (SD.of (se_lst (sa_cons (sd_tup (sa_cons sd_int (sa_cons (SD.of (se_lst (sa_cons (sd_tup (sa_cons sd_int (sa_cons sd_int (sa_cons sd_int sa_nil rfl) rfl) rfl)) sa_nil rfl))) sa_nil rfl) rfl)) sa_nil rfl))) sd_int)) sa_nil rfl) rfl) rfl) (by decide) rfl rfl))))))))))))
abbrev s__law_same : Stmt := top 22
theorem sc__law_same : FnScope ["found", "due", "k"] ["found", "due"] (defScope s__law_same) := ⟨rfl, rfl, rfl, by decide +kernel, rfl, by decide +kernel, by decide +kernel⟩
noncomputable def S__law_same (R_ : BD) : ST := (sSeq (sIf (eTB (e1 (fIsN false) (eVar 1))) (sRet (e1 (fIsN false) (eVar 0))) sPass)
  (sSeq (sIf (eT (eIsI "bool" (eVar 1))) (sRet (ev (vAnd (eIsI "bool" (eVar 0)) (ed (e2 fEq (eVar 0) (eVar 1)))))) sPass)
  (sSeq (sIf (eT (eIsI "int" (eVar 1))) (sRet (ev (vAnd (eIsI "int" (eVar 0)) (vAnd (ed (e1 fNotB (eIsI "bool" (eVar 0)))) (ed (e2 fEq (eVar 0) (eVar 1))))))) sPass)
  (sSeq (sIf (eT (eIsI "str" (eVar 1))) (sRet (ev (vAnd (eIsI "str" (eVar 0)) (ed (e2 fEq (eVar 0) (eVar 1)))))) sPass)
  (sSeq (sIf (eT (eIsI "dict" (eVar 1))) (sRet (ev (vAnd (eIsI "dict" (eVar 0)) (ed (e2 fEq (eVar 0) (eVar 1)))))) sPass)
  (sSeq (sIf (bOr (eTB (e2 fNe (eIsI "tuple" (eVar 1)) (eIsI "tuple" (eVar 0)))) (eTB (e2 fNe (eIsI "list" (eVar 1)) (eIsI "list" (eVar 0))))) (sRet (ev (eC (.bl false)))) sPass)
  (sRet (ev (vAnd (ed (e2 fEq (ed (eA fLen (aCons (eVar 0) aNil))) (ed (eA fLen (aCons (eVar 1) aNil))))) (ed (eA fAll (aCons (ed (eComp (iR1 (aCons (ed (eA fLen (aCons (eVar 1) aNil))) aNil)) (tN 2) bYes (ed (eCall 2 R_ (aCons (ed (e2 fIx (eVar 0) (eVar 2))) (aCons (ed (e2 fIx (eVar 1) (eVar 2))) aNil)))) [2])) aNil))))))))))))
noncomputable def B__law_same : Nat → BD
  | 0 => fun _ _ _ => .stuck
  | k + 1 => body 3 (S__law_same (B__law_same k))
theorem ok__law_same {f_ : Addr} {fd_ : FuncData} (D0 : Df K mg "_law_same" s__law_same ["found", "due"] f_ fd_) (bt : Bt mg) :
    ∀ k : Nat, FnOk P w K mg base (L2.CX P w) (k + 1) f_ fd_ ["found", "due"] (spB ca 2 (B__law_same k))
  | 0 => stuck_ok
  | k + 1 => by
    have G__law_same := ok__law_same D0 bt k
    have D__law_same := D0.dg
    have N : (["found", "due", "k"] : List Str).Nodup := sc__law_same.nd
    refine def_ok D0.F sc__law_same fun cdv A outer s H E hr => ?_
    have hu65 : (cxOf (L2.CX P w) P w K mg base ["found", "due", "k"] "_law_same" (defScope s__law_same) f_ cdv A outer s H E).A.units + 65 < cLine := by have := hr.un; show (A.deeper _).units + 65 < cLine; omega
    have hu64 : (cxOf (L2.CX P w) P w K mg base ["found", "due", "k"] "_law_same" (defScope s__law_same) f_ cdv A outer s H E).A.units + 64 < cLine := by omega
    have hu1 : (cxOf (L2.CX P w) P w K mg base ["found", "due", "k"] "_law_same" (defScope s__law_same) f_ cdv A outer s H E).A.units + 1 < cLine := by omega
    have tk : Takes (cxOf (L2.CX P w) P w K mg base ["found", "due", "k"] "_law_same" (defScope s__law_same) f_ cdv A outer s H E) (fun cls d _ H' => E cls d H') := takes_of rfl rfl rfl rfl
    unfold S__law_same
    exact (sss_cons (ss_if (sb_isN (sd_var (pv 1))) (sss_one (ss_ret (se_isN (sd_var (pv 0))))) sss_nil)
    (sss_cons (ss_if (sb_t (sd_isi (pe_callB call_isi rfl bt.isinstance b_isinstance (pa_cons (sd_var (pv 1)) (pa_cons (pe_bltn rfl bt.bool b_bool rfl) pa_nil)))) (fun _ => rfl)) (sss_one (ss_ret (SE.of (sd_and (sd_isi (pe_callB call_isi rfl bt.isinstance b_isinstance (pa_cons (sd_var (pv 0)) (pa_cons (pe_bltn rfl bt.bool b_bool rfl) pa_nil)))) (sd_one (SD.of (se_cmp (op_eqD hu64) lk_eq (sd_var (pv 0)) (sd_var (pv 1)) (nomark _)))))))) sss_nil)
    (sss_cons (ss_if (sb_t (sd_isi (pe_callB call_isi rfl bt.isinstance b_isinstance (pa_cons (sd_var (pv 1)) (pa_cons (pe_bltn rfl bt.int b_int rfl) pa_nil)))) (fun _ => rfl)) (sss_one (ss_ret (SE.of (sd_and (sd_isi (pe_callB call_isi rfl bt.isinstance b_isinstance (pa_cons (sd_var (pv 0)) (pa_cons (pe_bltn rfl bt.int b_int rfl) pa_nil)))) (sd_and (SD.of (se_not (sd_isi (pe_callB call_isi rfl bt.isinstance b_isinstance (pa_cons (sd_var (pv 0)) (pa_cons (pe_bltn rfl bt.bool b_bool rfl) pa_nil)))))) (sd_one (SD.of (se_cmp (op_eqD hu64) lk_eq (sd_var (pv 0)) (sd_var (pv 1)) (nomark _))))))))) sss_nil)
    (sss_cons (ss_if (sb_t (sd_isi (pe_callB call_isi rfl bt.isinstance b_isinstance (pa_cons (sd_var (pv 1)) (pa_cons (pe_bltn rfl bt.str b_str rfl) pa_nil)))) (fun _ => rfl)) (sss_one (ss_ret (SE.of (sd_and (sd_isi (pe_callB call_isi rfl bt.isinstance b_isinstance (pa_cons (sd_var (pv 0)) (pa_cons (pe_bltn rfl bt.str b_str rfl) pa_nil)))) (sd_one (SD.of (se_cmp (op_eqD hu64) lk_eq (sd_var (pv 0)) (sd_var (pv 1)) (nomark _)))))))) sss_nil)
    (sss_cons (ss_if (sb_t (sd_isi (pe_callB call_isi rfl bt.isinstance b_isinstance (pa_cons (sd_var (pv 1)) (pa_cons (pe_bltn rfl bt.dict b_dict rfl) pa_nil)))) (fun _ => rfl)) (sss_one (ss_ret (SE.of (sd_and (sd_isi (pe_callB call_isi rfl bt.isinstance b_isinstance (pa_cons (sd_var (pv 0)) (pa_cons (pe_bltn rfl bt.dict b_dict rfl) pa_nil)))) (sd_one (SD.of (se_cmp (op_eqD hu64) lk_eq (sd_var (pv 0)) (sd_var (pv 1)) (nomark _)))))))) sss_nil)
    (sss_cons (ss_if (sb_w (sw_or (sb_cmp (op_neD hu64) lk_ne (sd_isi (pe_callB call_isi rfl bt.isinstance b_isinstance (pa_cons (sd_var (pv 1)) (pa_cons (pe_bltn rfl bt.tuple b_tuple rfl) pa_nil)))) (sd_isi (pe_callB call_isi rfl bt.isinstance b_isinstance (pa_cons (sd_var (pv 0)) (pa_cons (pe_bltn rfl bt.tuple b_tuple rfl) pa_nil)))) (nomark _)) (sw_or1 (sb_cmp (op_neD hu64) lk_ne (sd_isi (pe_callB call_isi rfl bt.isinstance b_isinstance (pa_cons (sd_var (pv 1)) (pa_cons (pe_bltn rfl bt.list b_list rfl) pa_nil)))) (sd_isi (pe_callB call_isi rfl bt.isinstance b_isinstance (pa_cons (sd_var (pv 0)) (pa_cons (pe_bltn rfl bt.list b_list rfl) pa_nil)))) (nomark _))))) (sss_one (ss_ret (SE.of sd_bl))) sss_nil)
    (sss_one (ss_ret (SE.of (sd_and (SD.of (se_cmp (op_eqD hu64) lk_eq (SD.of (se_b (pe_callB cr_len rfl bt.len b_len (sa_cons (sd_var (pv 0)) sa_nil rfl)) lk_len)) (SD.of (se_b (pe_callB cr_len rfl bt.len b_len (sa_cons (sd_var (pv 1)) sa_nil rfl)) lk_len)) (nomark _))) (sd_one (SD.of (se_b (pe_callB (cr_all rfl) rfl bt.all b_all (sa_cons (SD.of (se_lc (own := [(("k" : Str), 2)]) rfl N (si_r1 (pi_range1 rfl bt.range (sa_cons (SD.of (se_b (pe_callB cr_len rfl bt.len b_len (sa_cons (sd_var (pv 1)) sa_nil rfl)) lk_len)) sa_nil rfl))) (blkOk_by (by rfl)) (fun _ _ _ _ _ => by exact (sgw_name (pg_name (i := 2) N rfl (by first | exact Or.inl rfl | exact Or.inr rfl)) (by decide))) (fun _ _ _ _ _ => by exact sts_nil) (fun _ _ _ _ _ => by exact (SD.of (se_callN rfl G__law_same hr (by rfl) D__law_same.m D__law_same.F.kp D__law_same.b tk0 (sa_cons (SD.of (se_ix hu1 (sd_var (pv 0)) (sd_var (pv 2)) (fun _ _ => rfl))) (sa_cons (SD.of (se_ix hu1 (sd_var (pv 1)) (sd_var (pv 2)) (fun _ _ => rfl))) sa_nil rfl) rfl) (by decide) rfl rfl))) (fun _ => rfl))) sa_nil rfl)) lk_all)))))))))))))
abbrev s_law : Stmt := top 35
theorem sc_law : FnScope ["script", "draws", "turn", "told", "system", "order", "states", "ready", "action", "run", "k", "at", "bent"] ["script"] (defScope s_law) := ⟨rfl, rfl, rfl, by decide +kernel, rfl, by decide +kernel, by decide +kernel⟩
noncomputable def S_law : ST := (sSeq (sSet 1 (eAl (eCall 2 B__law_draws (aCons (eVar 0) (aCons (eC (.int 200)) aNil)))))
  (sSeq (sFor (iR1 (aCons (eC (.int 3)) aNil)) (tN 2) (sSeq (sSet 3 (ed (eCall 5 B__law_system (aCons (eVar 1) (aCons (eC (.int 4)) (aCons (eC (.int 4)) (aCons (eC (.int 10)) (aCons (eC (.int 4)) aNil))))))))
  (sSeq (sSet 4 (ed (eCall 1 B__law_made (aCons (eVar 3) aNil))))
  (sSeq (sIf (bOr (bNot (eT (ed (eCall 2 (B__law_same 8) (aCons (eTup (aCons (ed (e1 (fFld [0] 0) (eVar 4))) (aCons (ed (e1 (fFld [0] 1) (eVar 4))) (aCons (ed (e1 (fFld [0] 2) (eVar 4))) aNil)))) (aCons (eVar 3) aNil)))))) (bNot (eT (ed (eCall 1 B__law_faults_right (aCons (eVar 1) aNil)))))) (sRet (ev (eC (.bl false)))) sPass)
  (sSeq (sSet 5 (ed (eCall 2 B__law_arising (aCons (eVar 3) (aCons (eC (.int 700)) aNil)))))
  (sSeq (sIf (bOr (bNot (eT (ed (eCall 2 (B__law_same 8) (aCons (ed (eCall 1 B_arising (aCons (eVar 4) aNil))) (aCons (eVar 5) aNil)))))) (bNot (eT (ed (eCall 2 (B__law_same 8) (aCons (ed (eCall 1 B_stuck (aCons (eVar 4) aNil))) (aCons (ed (eComp (iSeq (eVar 5)) (tN 6) (eTB (e2 fEq (ed (eA fLen (aCons (ed (eCall 2 B__law_possible (aCons (eVar 3) (aCons (eVar 6) aNil)))) aNil))) (eC (.int 0)))) (eVar 6) [6])) aNil))))))) (sRet (ev (eC (.bl false)))) sPass)
  (sSeq (sSet 6 (ed (e2 fIx (eVar 5) (ed (eCall 2 B__law_take (aCons (eVar 1) (aCons (ed (eA fLen (aCons (eVar 5) aNil))) aNil)))))))
  (sSeq (sSet 7 (ed (eCall 2 B__law_possible (aCons (eVar 3) (aCons (eVar 6) aNil)))))
  (sSeq (sIf (bNot (eT (ed (eCall 2 (B__law_same 8) (aCons (ed (eCall 2 B_possible (aCons (eVar 4) (aCons (eVar 6) aNil)))) (aCons (eVar 7) aNil)))))) (sRet (ev (eC (.bl false)))) sPass)
  (sSeq (sFor (iSeq (eVar 7)) (tN 8) (sIf (bNot (eT (ed (eCall 2 (B__law_same 8) (aCons (ed (eCall 3 B_moved (aCons (eVar 4) (aCons (eVar 6) (aCons (eVar 8) aNil))))) (aCons (ed (eCall 3 B__law_moved (aCons (eVar 3) (aCons (eVar 6) (aCons (eVar 8) aNil))))) aNil)))))) (sRet (ev (eC (.bl false)))) sPass) [8])
  (sSeq (sSet 9 (ed (eCall 3 B__law_run (aCons (eVar 1) (aCons (eVar 3) (aCons (eC (.int 9)) aNil))))))
  (sSeq (sIf (bOr (eTB (e2 fNotIsB (ed (eCall 2 B_is_run (aCons (eVar 4) (aCons (eVar 9) aNil)))) (eC (.bl true)))) (bNot (eT (ed (eCall 2 (B__law_same 8) (aCons (ed (eCall 2 B_below (aCons (eVar 4) (aCons (eVar 9) aNil)))) (aCons (ed (eCall 2 B__law_lower (aCons (eVar 3) (aCons (eVar 9) aNil)))) aNil))))))) (sRet (ev (eC (.bl false)))) sPass)
  (sFor (iR1 (aCons (eC (.int 3)) aNil)) (tN 10) (sSeq (sSet 11 (ed (eCall 2 B__law_take (aCons (eVar 1) (aCons (ed (e2 fAdd (ed (eA fLen (aCons (eVar 9) aNil))) (eC (.int 1)))) aNil)))))
  (sSeq (sSet 12 (ed (e2 fAdd (ed (e2 fAdd (ed (eSl (eVar 9) oNone (oSome (eVar 11)))) (eTup (aCons (ed (e2 fSub (ed (eCall 2 B__law_take (aCons (eVar 1) (aCons (eC (.int 12)) aNil)))) (eC (.int 1)))) aNil)))) (ed (eSl (eVar 9) (oSome (ed (e2 fAdd (eVar 11) (ed (eCall 2 B__law_take (aCons (eVar 1) (aCons (eC (.int 2)) aNil))))))) oNone)))))
  (sIf (bNot (eT (ed (eCall 2 (B__law_same 8) (aCons (ed (eCall 2 B_is_run (aCons (eVar 4) (aCons (eVar 12) aNil)))) (aCons (ed (eCall 2 B__law_is_run (aCons (eVar 3) (aCons (eVar 12) aNil)))) aNil)))))) (sRet (ev (eC (.bl false)))) sPass))) [10, 11, 12])))))))))))) [2, 3, 4, 5, 7, 8, 9, 10, 11, 12])
  (sRet (ev (eC (.bl true))))))
noncomputable def B_law : BD := body 13 S_law
theorem ok_law {f_ : Addr} {fd_ : FuncData} {f__law_draws : Addr} {fd__law_draws : FuncData} {f__law_system : Addr} {fd__law_system : FuncData} {f__law_made : Addr} {fd__law_made : FuncData} {f__law_same : Addr} {fd__law_same : FuncData} {f__law_faults_right : Addr} {fd__law_faults_right : FuncData} {f__law_arising : Addr} {fd__law_arising : FuncData} {f_arising : Addr} {fd_arising : FuncData} {f_stuck : Addr} {fd_stuck : FuncData} {f__law_possible : Addr} {fd__law_possible : FuncData} {f__law_take : Addr} {fd__law_take : FuncData} {f_possible : Addr} {fd_possible : FuncData} {f_moved : Addr} {fd_moved : FuncData} {f__law_moved : Addr} {fd__law_moved : FuncData} {f__law_run : Addr} {fd__law_run : FuncData} {f_is_run : Addr} {fd_is_run : FuncData} {f_below : Addr} {fd_below : FuncData} {f__law_lower : Addr} {fd__law_lower : FuncData} {f__law_is_run : Addr} {fd__law_is_run : FuncData} (F0 : Fun K "law" "law" s_law f_ fd_) (bt : Bt mg) (C_System : ClF ca K 0 ["sizes", "starts", "actions"]) (D__law_draws : Dg K mg "_law_draws" "_law_draws" s__law_draws ["script", "count"] f__law_draws fd__law_draws) (G__law_draws : FnOk P w K mg base (L2.CX P w) 1 f__law_draws fd__law_draws ["script", "count"] (spB ca 2 B__law_draws)) (D__law_system : Dg K mg "_law_system" "_law_system" s__law_system ["draws", "most_places", "most_size", "most_actions", "labels"] f__law_system fd__law_system) (G__law_system : FnOk P w K mg base (L2.CX P w) 2 f__law_system fd__law_system ["draws", "most_places", "most_size", "most_actions", "labels"] (spB ca 5 B__law_system)) (D__law_made : Dg K mg "_law_made" "_law_made" s__law_made ["system"] f__law_made fd__law_made) (G__law_made : FnOk P w K mg base (L2.CX P w) 4 f__law_made fd__law_made ["system"] (spB ca 1 B__law_made)) (D__law_same : Dg K mg "_law_same" "_law_same" s__law_same ["found", "due"] f__law_same fd__law_same) (G__law_same : FnOk P w K mg base (L2.CX P w) 9 f__law_same fd__law_same ["found", "due"] (spB ca 2 (B__law_same 8))) (D__law_faults_right : Dg K mg "_law_faults_right" "_law_faults_right" s__law_faults_right ["draws"] f__law_faults_right fd__law_faults_right) (G__law_faults_right : FnOk P w K mg base (L2.CX P w) 5 f__law_faults_right fd__law_faults_right ["draws"] (spB ca 1 B__law_faults_right)) (D__law_arising : Dg K mg "_law_arising" "_law_arising" s__law_arising ["system", "limit"] f__law_arising fd__law_arising) (G__law_arising : FnOk P w K mg base (L2.CX P w) 2 f__law_arising fd__law_arising ["system", "limit"] (spB ca 2 B__law_arising)) (D_arising : Dg K mg "arising" "arising" s_arising ["system"] f_arising fd_arising) (G_arising : FnOk P w K mg base (L2.CX P w) 2 f_arising fd_arising ["system"] (spB ca 1 B_arising)) (D_stuck : Dg K mg "stuck" "stuck" s_stuck ["system"] f_stuck fd_stuck) (G_stuck : FnOk P w K mg base (L2.CX P w) 3 f_stuck fd_stuck ["system"] (spB ca 1 B_stuck)) (D__law_possible : Dg K mg "_law_possible" "_law_possible" s__law_possible ["system", "states"] f__law_possible fd__law_possible) (G__law_possible : FnOk P w K mg base (L2.CX P w) 1 f__law_possible fd__law_possible ["system", "states"] (spB ca 2 B__law_possible)) (D__law_take : Dg K mg "_law_take" "_law_take" s__law_take ["draws", "limit"] f__law_take fd__law_take) (G__law_take : FnOk P w K mg base (L2.CX P w) 1 f__law_take fd__law_take ["draws", "limit"] (spB ca 2 B__law_take)) (D_possible : Dg K mg "possible" "possible" s_possible ["system", "states"] f_possible fd_possible) (G_possible : FnOk P w K mg base (L2.CX P w) 1 f_possible fd_possible ["system", "states"] (spB ca 2 B_possible)) (D_moved : Dg K mg "moved" "moved" s_moved ["system", "states", "action"] f_moved fd_moved) (G_moved : FnOk P w K mg base (L2.CX P w) 1 f_moved fd_moved ["system", "states", "action"] (spB ca 3 B_moved)) (D__law_moved : Dg K mg "_law_moved" "_law_moved" s__law_moved ["system", "states", "action"] f__law_moved fd__law_moved) (G__law_moved : FnOk P w K mg base (L2.CX P w) 1 f__law_moved fd__law_moved ["system", "states", "action"] (spB ca 3 B__law_moved)) (D__law_run : Dg K mg "_law_run" "_law_run" s__law_run ["draws", "system", "most"] f__law_run fd__law_run) (G__law_run : FnOk P w K mg base (L2.CX P w) 2 f__law_run fd__law_run ["draws", "system", "most"] (spB ca 3 B__law_run)) (D_is_run : Dg K mg "is_run" "is_run" s_is_run ["system", "run"] f_is_run fd_is_run) (G_is_run : FnOk P w K mg base (L2.CX P w) 3 f_is_run fd_is_run ["system", "run"] (spB ca 2 B_is_run)) (D_below : Dg K mg "below" "below" s_below ["system", "run"] f_below fd_below) (G_below : FnOk P w K mg base (L2.CX P w) 3 f_below fd_below ["system", "run"] (spB ca 2 B_below)) (D__law_lower : Dg K mg "_law_lower" "_law_lower" s__law_lower ["system", "run"] f__law_lower fd__law_lower) (G__law_lower : FnOk P w K mg base (L2.CX P w) 3 f__law_lower fd__law_lower ["system", "run"] (spB ca 2 B__law_lower)) (D__law_is_run : Dg K mg "_law_is_run" "_law_is_run" s__law_is_run ["system", "run"] f__law_is_run fd__law_is_run) (G__law_is_run : FnOk P w K mg base (L2.CX P w) 2 f__law_is_run fd__law_is_run ["system", "run"] (spB ca 2 B__law_is_run)) :
    FnOk P w K mg base (L2.CX P w) 10 f_ fd_ ["script"] (spB ca 1 B_law) := by
  have N : (["script", "draws", "turn", "told", "system", "order", "states", "ready", "action", "run", "k", "at", "bent"] : List Str).Nodup := sc_law.nd
  refine def_ok F0 sc_law fun cdv A outer s H E hr => ?_
  have hu65 : (cxOf (L2.CX P w) P w K mg base ["script", "draws", "turn", "told", "system", "order", "states", "ready", "action", "run", "k", "at", "bent"] "law" (defScope s_law) f_ cdv A outer s H E).A.units + 65 < cLine := by have := hr.un; show (A.deeper _).units + 65 < cLine; omega
  have hu64 : (cxOf (L2.CX P w) P w K mg base ["script", "draws", "turn", "told", "system", "order", "states", "ready", "action", "run", "k", "at", "bent"] "law" (defScope s_law) f_ cdv A outer s H E).A.units + 64 < cLine := by omega
  have hu1 : (cxOf (L2.CX P w) P w K mg base ["script", "draws", "turn", "told", "system", "order", "states", "ready", "action", "run", "k", "at", "bent"] "law" (defScope s_law) f_ cdv A outer s H E).A.units + 1 < cLine := by omega
  have tk : Takes (cxOf (L2.CX P w) P w K mg base ["script", "draws", "turn", "told", "system", "order", "states", "ready", "action", "run", "k", "at", "bent"] "law" (defScope s_law) f_ cdv A outer s H E) (fun cls d _ H' => E cls d H') := takes_of rfl rfl rfl rfl
  unfold S_law
  exact (sss_cons (ss_set N rfl (by first | exact Or.inl rfl | exact Or.inr rfl) (sd_al (se_callN rfl G__law_draws (hr.mono (by decide)) (by rfl) D__law_draws.m D__law_draws.F.kp D__law_draws.b tk (sa_cons (sd_var (pv 0)) (sa_cons sd_int sa_nil rfl) rfl) (by decide) rfl rfl)) rfl (by first | exact Or.inl rfl | exact Or.inr rfl))
    (sss_cons (ss_for [2, 3, 4, 5, 7, 8, 9, 10, 11, 12] (passes_of rfl) rfl (si_r1 (pi_range1 rfl bt.range (sa_cons sd_int sa_nil rfl))) (sg_name (pg_name (i := 2) N rfl (by first | exact Or.inl rfl | exact Or.inr rfl))) (sss_cons (ss_set N rfl (by first | exact Or.inl rfl | exact Or.inr rfl) (SD.of (se_callN rfl G__law_system (hr.mono (by decide)) (by rfl) D__law_system.m D__law_system.F.kp D__law_system.b tk (sa_cons (sd_var (pv 1)) (sa_cons sd_int (sa_cons sd_int (sa_cons sd_int (sa_cons sd_int sa_nil rfl) rfl) rfl) rfl) rfl) (by decide) rfl rfl)) rfl (by first | exact Or.inl rfl | exact Or.inr rfl))
    (sss_cons (ss_set N rfl (by first | exact Or.inl rfl | exact Or.inr rfl) (SD.of (se_callN rfl G__law_made (hr.mono (by decide)) (by rfl) D__law_made.m D__law_made.F.kp D__law_made.b tk (sa_cons (sd_var (pv 3)) sa_nil rfl) (by decide) rfl rfl)) rfl (by first | exact Or.inl rfl | exact Or.inr rfl))
    (sss_cons (ss_if (sb_w (sw_or (sb_not (sb_t (SD.of (se_callN rfl G__law_same (hr.mono (by decide)) (by rfl) D__law_same.m D__law_same.F.kp D__law_same.b tk (sa_cons (sd_tup (sa_cons (SD.of (se_fld (sd_var (pv 4)) rfl (C_System.at (i := 0) (by decide +kernel) rfl))) (sa_cons (SD.of (se_fld (sd_var (pv 4)) rfl (C_System.at (i := 1) (by decide +kernel) rfl))) (sa_cons (SD.of (se_fld (sd_var (pv 4)) rfl (C_System.at (i := 2) (by decide +kernel) rfl))) sa_nil rfl) rfl) rfl)) (sa_cons (sd_var (pv 3)) sa_nil rfl) rfl) (by decide) rfl rfl)) (fun _ => rfl))) (sw_or1 (sb_not (sb_t (SD.of (se_callN rfl G__law_faults_right (hr.mono (by decide)) (by rfl) D__law_faults_right.m D__law_faults_right.F.kp D__law_faults_right.b tk (sa_cons (sd_var (pv 1)) sa_nil rfl) (by decide) rfl rfl)) (fun _ => rfl)))))) (sss_one (ss_ret (SE.of sd_bl))) sss_nil)
    (sss_cons (ss_set N rfl (by first | exact Or.inl rfl | exact Or.inr rfl) (SD.of (se_callN rfl G__law_arising (hr.mono (by decide)) (by rfl) D__law_arising.m D__law_arising.F.kp D__law_arising.b tk (sa_cons (sd_var (pv 3)) (sa_cons sd_int sa_nil rfl) rfl) (by decide) rfl rfl)) rfl (by first | exact Or.inl rfl | exact Or.inr rfl))
    (sss_cons (ss_if (sb_w (sw_or (sb_not (sb_t (SD.of (se_callN rfl G__law_same (hr.mono (by decide)) (by rfl) D__law_same.m D__law_same.F.kp D__law_same.b tk (sa_cons (SD.of (se_callN rfl G_arising (hr.mono (by decide)) (by rfl) D_arising.m D_arising.F.kp D_arising.b tk (sa_cons (sd_var (pv 4)) sa_nil rfl) (by decide) rfl rfl)) (sa_cons (sd_var (pv 5)) sa_nil rfl) rfl) (by decide) rfl rfl)) (fun _ => rfl))) (sw_or1 (sb_not (sb_t (SD.of (se_callN rfl G__law_same (hr.mono (by decide)) (by rfl) D__law_same.m D__law_same.F.kp D__law_same.b tk (sa_cons (SD.of (se_callN rfl G_stuck (hr.mono (by decide)) (by rfl) D_stuck.m D_stuck.F.kp D_stuck.b tk (sa_cons (sd_var (pv 4)) sa_nil rfl) (by decide) rfl rfl)) (sa_cons (SD.of (se_lc (own := [(("states" : Str), 6)]) rfl N (si_seq (sd_var (pv 5))) (blkOk_by (by rfl)) (fun _ _ _ _ _ => by exact (sgw_name (pg_name (i := 6) N rfl (by first | exact Or.inl rfl | exact Or.inr rfl)) (by decide))) (fun _ _ _ _ _ => by exact (sts_one (sb_cmp (op_eqD hu64) lk_eq (SD.of (se_b (pe_callB cr_len rfl bt.len b_len (sa_cons (SD.of (se_callN rfl G__law_possible (hr.mono (by decide)) (by rfl) D__law_possible.m D__law_possible.F.kp D__law_possible.b tk0 (sa_cons (sd_var (pv 3)) (sa_cons (sd_var (pv 6)) sa_nil rfl) rfl) (by decide) rfl rfl)) sa_nil rfl)) lk_len)) sd_int (nomark _)))) (fun _ _ _ _ _ => by exact (sd_var (pv 6))) (fun _ => rfl))) sa_nil rfl) rfl) (by decide) rfl rfl)) (fun _ => rfl)))))) (sss_one (ss_ret (SE.of sd_bl))) sss_nil)
    (sss_cons (ss_set N rfl (by first | exact Or.inl rfl | exact Or.inr rfl) (SD.of (se_ix hu1 (sd_var (pv 5)) (SD.of (se_callN rfl G__law_take (hr.mono (by decide)) (by rfl) D__law_take.m D__law_take.F.kp D__law_take.b tk (sa_cons (sd_var (pv 1)) (sa_cons (SD.of (se_b (pe_callB cr_len rfl bt.len b_len (sa_cons (sd_var (pv 5)) sa_nil rfl)) lk_len)) sa_nil rfl) rfl) (by decide) rfl rfl)) (fun _ _ => rfl))) rfl (by first | exact Or.inl rfl | exact Or.inr rfl))
    (sss_cons (ss_set N rfl (by first | exact Or.inl rfl | exact Or.inr rfl) (SD.of (se_callN rfl G__law_possible (hr.mono (by decide)) (by rfl) D__law_possible.m D__law_possible.F.kp D__law_possible.b tk (sa_cons (sd_var (pv 3)) (sa_cons (sd_var (pv 6)) sa_nil rfl) rfl) (by decide) rfl rfl)) rfl (by first | exact Or.inl rfl | exact Or.inr rfl))
    (sss_cons (ss_if (sb_not (sb_t (SD.of (se_callN rfl G__law_same (hr.mono (by decide)) (by rfl) D__law_same.m D__law_same.F.kp D__law_same.b tk (sa_cons (SD.of (se_callN rfl G_possible (hr.mono (by decide)) (by rfl) D_possible.m D_possible.F.kp D_possible.b tk (sa_cons (sd_var (pv 4)) (sa_cons (sd_var (pv 6)) sa_nil rfl) rfl) (by decide) rfl rfl)) (sa_cons (sd_var (pv 7)) sa_nil rfl) rfl) (by decide) rfl rfl)) (fun _ => rfl))) (sss_one (ss_ret (SE.of sd_bl))) sss_nil)
    (sss_cons (ss_for [8] (passes_of rfl) rfl (si_seq (sd_var (pv 7))) (sg_name (pg_name (i := 8) N rfl (by first | exact Or.inl rfl | exact Or.inr rfl))) (sss_one (ss_if (sb_not (sb_t (SD.of (se_callN rfl G__law_same (hr.mono (by decide)) (by rfl) D__law_same.m D__law_same.F.kp D__law_same.b tk (sa_cons (SD.of (se_callN rfl G_moved (hr.mono (by decide)) (by rfl) D_moved.m D_moved.F.kp D_moved.b tk (sa_cons (sd_var (pv 4)) (sa_cons (sd_var (pv 6)) (sa_cons (sd_var (pv 8)) sa_nil rfl) rfl) rfl) (by decide) rfl rfl)) (sa_cons (SD.of (se_callN rfl G__law_moved (hr.mono (by decide)) (by rfl) D__law_moved.m D__law_moved.F.kp D__law_moved.b tk (sa_cons (sd_var (pv 3)) (sa_cons (sd_var (pv 6)) (sa_cons (sd_var (pv 8)) sa_nil rfl) rfl) rfl) (by decide) rfl rfl)) sa_nil rfl) rfl) (by decide) rfl rfl)) (fun _ => rfl))) (sss_one (ss_ret (SE.of sd_bl))) sss_nil)) (fun _ => rfl))
    (sss_cons (ss_set N rfl (by first | exact Or.inl rfl | exact Or.inr rfl) (SD.of (se_callN rfl G__law_run (hr.mono (by decide)) (by rfl) D__law_run.m D__law_run.F.kp D__law_run.b tk (sa_cons (sd_var (pv 1)) (sa_cons (sd_var (pv 3)) (sa_cons sd_int sa_nil rfl) rfl) rfl) (by decide) rfl rfl)) rfl (by first | exact Or.inl rfl | exact Or.inr rfl))
    (sss_cons (ss_if (sb_w (sw_or (sb_cmp op_notB lk_notB (SD.of (se_callN rfl G_is_run (hr.mono (by decide)) (by rfl) D_is_run.m D_is_run.F.kp D_is_run.b tk (sa_cons (sd_var (pv 4)) (sa_cons (sd_var (pv 9)) sa_nil rfl) rfl) (by decide) rfl rfl)) sd_bl (nomark _)) (sw_or1 (sb_not (sb_t (SD.of (se_callN rfl G__law_same (hr.mono (by decide)) (by rfl) D__law_same.m D__law_same.F.kp D__law_same.b tk (sa_cons (SD.of (se_callN rfl G_below (hr.mono (by decide)) (by rfl) D_below.m D_below.F.kp D_below.b tk (sa_cons (sd_var (pv 4)) (sa_cons (sd_var (pv 9)) sa_nil rfl) rfl) (by decide) rfl rfl)) (sa_cons (SD.of (se_callN rfl G__law_lower (hr.mono (by decide)) (by rfl) D__law_lower.m D__law_lower.F.kp D__law_lower.b tk (sa_cons (sd_var (pv 3)) (sa_cons (sd_var (pv 9)) sa_nil rfl) rfl) (by decide) rfl rfl)) sa_nil rfl) rfl) (by decide) rfl rfl)) (fun _ => rfl)))))) (sss_one (ss_ret (SE.of sd_bl))) sss_nil)
    (sss_one (ss_for [10, 11, 12] (passes_of rfl) rfl (si_r1 (pi_range1 rfl bt.range (sa_cons sd_int sa_nil rfl))) (sg_name (pg_name (i := 10) N rfl (by first | exact Or.inl rfl | exact Or.inr rfl))) (sss_cons (ss_set N rfl (by first | exact Or.inl rfl | exact Or.inr rfl) (SD.of (se_callN rfl G__law_take (hr.mono (by decide)) (by rfl) D__law_take.m D__law_take.F.kp D__law_take.b tk (sa_cons (sd_var (pv 1)) (sa_cons (SD.of (se_op op_addA lk_add (SD.of (se_b (pe_callB cr_len rfl bt.len b_len (sa_cons (sd_var (pv 9)) sa_nil rfl)) lk_len)) sd_int)) sa_nil rfl) rfl) (by decide) rfl rfl)) rfl (by first | exact Or.inl rfl | exact Or.inr rfl))
    (sss_cons (ss_set N rfl (by first | exact Or.inl rfl | exact Or.inr rfl) (SD.of (se_op op_addA lk_add (SD.of (se_op op_addA lk_add (SD.of (se_sl (sd_var (pv 9)) so_none (so_some (sd_var (pv 11))))) (sd_tup (sa_cons (SD.of (se_op op_sub lk_sub (SD.of (se_callN rfl G__law_take (hr.mono (by decide)) (by rfl) D__law_take.m D__law_take.F.kp D__law_take.b tk (sa_cons (sd_var (pv 1)) (sa_cons sd_int sa_nil rfl) rfl) (by decide) rfl rfl)) sd_int)) sa_nil rfl)))) (SD.of (se_sl (sd_var (pv 9)) (so_some (SD.of (se_op op_addA lk_add (sd_var (pv 11)) (SD.of (se_callN rfl G__law_take (hr.mono (by decide)) (by rfl) D__law_take.m D__law_take.F.kp D__law_take.b tk (sa_cons (sd_var (pv 1)) (sa_cons sd_int sa_nil rfl) rfl) (by decide) rfl rfl))))) so_none)))) rfl (by first | exact Or.inl rfl | exact Or.inr rfl))
    (sss_one (ss_if (sb_not (sb_t (SD.of (se_callN rfl G__law_same (hr.mono (by decide)) (by rfl) D__law_same.m D__law_same.F.kp D__law_same.b tk (sa_cons (SD.of (se_callN rfl G_is_run (hr.mono (by decide)) (by rfl) D_is_run.m D_is_run.F.kp D_is_run.b tk (sa_cons (sd_var (pv 4)) (sa_cons (sd_var (pv 12)) sa_nil rfl) rfl) (by decide) rfl rfl)) (sa_cons (SD.of (se_callN rfl G__law_is_run (hr.mono (by decide)) (by rfl) D__law_is_run.m D__law_is_run.F.kp D__law_is_run.b tk (sa_cons (sd_var (pv 3)) (sa_cons (sd_var (pv 12)) sa_nil rfl) rfl) (by decide) rfl rfl)) sa_nil rfl) rfl) (by decide) rfl rfl)) (fun _ => rfl))) (sss_one (ss_ret (SE.of sd_bl))) sss_nil)))) (fun _ => rfl)))))))))))))) (fun _ => rfl))
    (sss_one (ss_ret (SE.of sd_bl)))))
end
def cls : List (Str × List Str) := [("System", ["sizes", "starts", "actions"]), ("InvalidSystem", [])]
theorem all_mk {l : PySem.W.OpenLaw} {w : World} {K : PySem.W.Frag} {h : Heap} {mg : Str → Option Value} {fa : Addr} {A_System : Addr} {A_InvalidSystem : Addr} {E_is_action : Addr} {od_is_action an_is_action : Option Addr} {sl_is_action : Array (Option Value)} {oc_is_action kV_is_action dc_is_action pm_is_action cd_is_action ct_is_action : Value} {E_places_of : Addr} {od_places_of an_places_of : Option Addr} {sl_places_of : Array (Option Value)} {oc_places_of kV_places_of dc_places_of pm_places_of cd_places_of ct_places_of : Value} {E_possible : Addr} {od_possible an_possible : Option Addr} {sl_possible : Array (Option Value)} {oc_possible kV_possible dc_possible pm_possible cd_possible ct_possible : Value} {E_moved : Addr} {od_moved an_moved : Option Addr} {sl_moved : Array (Option Value)} {oc_moved kV_moved dc_moved pm_moved cd_moved ct_moved : Value} {E__law_draws : Addr} {od__law_draws an__law_draws : Option Addr} {sl__law_draws : Array (Option Value)} {oc__law_draws kV__law_draws dc__law_draws pm__law_draws cd__law_draws ct__law_draws : Value} {E__law_take : Addr} {od__law_take an__law_take : Option Addr} {sl__law_take : Array (Option Value)} {oc__law_take kV__law_take dc__law_take pm__law_take cd__law_take ct__law_take : Value} {E__law_possible : Addr} {od__law_possible an__law_possible : Option Addr} {sl__law_possible : Array (Option Value)} {oc__law_possible kV__law_possible dc__law_possible pm__law_possible cd__law_possible ct__law_possible : Value} {E__law_moved : Addr} {od__law_moved an__law_moved : Option Addr} {sl__law_moved : Array (Option Value)} {oc__law_moved kV__law_moved dc__law_moved pm__law_moved cd__law_moved ct__law_moved : Value} {E__law_places : Addr} {od__law_places an__law_places : Option Addr} {sl__law_places : Array (Option Value)} {oc__law_places kV__law_places dc__law_places pm__law_places cd__law_places ct__law_places : Value} {E_System___init__ : Addr} {od_System___init__ an_System___init__ : Option Addr} {sl_System___init__ : Array (Option Value)} {oc_System___init__ kV_System___init__ dc_System___init__ pm_System___init__ cd_System___init__ ct_System___init__ : Value} {E_are_apart : Addr} {od_are_apart an_are_apart : Option Addr} {sl_are_apart : Array (Option Value)} {oc_are_apart kV_are_apart dc_are_apart pm_are_apart cd_are_apart ct_are_apart : Value} {E_arising : Addr} {od_arising an_arising : Option Addr} {sl_arising : Array (Option Value)} {oc_arising kV_arising dc_arising pm_arising cd_arising ct_arising : Value} {E_states_behind : Addr} {od_states_behind an_states_behind : Option Addr} {sl_states_behind : Array (Option Value)} {oc_states_behind kV_states_behind dc_states_behind pm_states_behind cd_states_behind ct_states_behind : Value} {E__law_system : Addr} {od__law_system an__law_system : Option Addr} {sl__law_system : Array (Option Value)} {oc__law_system kV__law_system dc__law_system pm__law_system cd__law_system ct__law_system : Value} {E__law_arising : Addr} {od__law_arising an__law_arising : Option Addr} {sl__law_arising : Array (Option Value)} {oc__law_arising kV__law_arising dc__law_arising pm__law_arising cd__law_arising ct__law_arising : Value} {E__law_apart : Addr} {od__law_apart an__law_apart : Option Addr} {sl__law_apart : Array (Option Value)} {oc__law_apart kV__law_apart dc__law_apart pm__law_apart cd__law_apart ct__law_apart : Value} {E__law_run : Addr} {od__law_run an__law_run : Option Addr} {sl__law_run : Array (Option Value)} {oc__law_run kV__law_run dc__law_run pm__law_run cd__law_run ct__law_run : Value} {E__law_is_run : Addr} {od__law_is_run an__law_is_run : Option Addr} {sl__law_is_run : Array (Option Value)} {oc__law_is_run kV__law_is_run dc__law_is_run pm__law_is_run cd__law_is_run ct__law_is_run : Value} {E_stuck : Addr} {od_stuck an_stuck : Option Addr} {sl_stuck : Array (Option Value)} {oc_stuck kV_stuck dc_stuck pm_stuck cd_stuck ct_stuck : Value} {E_is_run : Addr} {od_is_run an_is_run : Option Addr} {sl_is_run : Array (Option Value)} {oc_is_run kV_is_run dc_is_run pm_is_run cd_is_run ct_is_run : Value} {E_below : Addr} {od_below an_below : Option Addr} {sl_below : Array (Option Value)} {oc_below kV_below dc_below pm_below cd_below ct_below : Value} {E__law_lower : Addr} {od__law_lower an__law_lower : Option Addr} {sl__law_lower : Array (Option Value)} {oc__law_lower kV__law_lower dc__law_lower pm__law_lower cd__law_lower ct__law_lower : Value} {E__law_made : Addr} {od__law_made an__law_made : Option Addr} {sl__law_made : Array (Option Value)} {oc__law_made kV__law_made dc__law_made pm__law_made cd__law_made ct__law_made : Value} {E__law_is_refused : Addr} {od__law_is_refused an__law_is_refused : Option Addr} {sl__law_is_refused : Array (Option Value)} {oc__law_is_refused kV__law_is_refused dc__law_is_refused pm__law_is_refused cd__law_is_refused ct__law_is_refused : Value} {E__law_faults_right : Addr} {od__law_faults_right an__law_faults_right : Option Addr} {sl__law_faults_right : Array (Option Value)} {oc__law_faults_right kV__law_faults_right dc__law_faults_right pm__law_faults_right cd__law_faults_right ct__law_faults_right : Value} {E__law_same : Addr} {od__law_same an__law_same : Option Addr} {sl__law_same : Array (Option Value)} {oc__law_same kV__law_same dc__law_same pm__law_same cd__law_same ct__law_same : Value} {E_law : Addr} {od_law an_law : Option Addr} {sl_law : Array (Option Value)} {oc_law kV_law dc_law pm_law cd_law ct_law : Value} {t_MOST_ACTIONS : Tok} {t_MOST_LABEL : Tok} {t_MOST_PLACES : Tok} {t_MOST_STATES : Tok} (X : K.In h) (G : h.Ns mainGlobals mg) (hfa : mg "law" = some (.ref fa))
    (aC_System : PySem.W.nsIn K mainGlobals "System" = some (some (.ref A_System)))
    (pg_System : PySem.W.plainGet K A_System Str.empty = true)
    (hd_System : PySem.W.hasDictIn K A_System = true)
    (po_System : PySem.W.plainOver K A_System = true)
    (sa_System : PySem.W.findIn K (.ref A_System) "__setattr__" = some (some (.builtin "object.__setattr__")))
    (mk_System : PySem.W.makesIn K A_System = true)
    (kc_System : PySem.W.keepIn K (.ref A_System) = true)
    (na_System_sizes : PySem.W.findIn K (.ref A_System) "sizes" = some none)
    (na_System_starts : PySem.W.findIn K (.ref A_System) "starts" = some none)
    (na_System_actions : PySem.W.findIn K (.ref A_System) "actions" = some none)
    (aC_InvalidSystem : PySem.W.nsIn K mainGlobals "InvalidSystem" = some (some (.ref A_InvalidSystem)))
    (ex_InvalidSystem : PySem.W.excIn K A_InvalidSystem [.type "ValueError", .type "Exception", .type "BaseException", .type "object"] "ValueError.__new__" = true)
    (kc_InvalidSystem : PySem.W.keepIn K (.ref A_InvalidSystem) = true)
    (sb_InvalidSystem : PySem.W.subIn K (.ref A_InvalidSystem) (.type "BaseException") = some true)
    (ty_InvalidSystem : PySem.W.typeIn K (.ref A_InvalidSystem) = some (.type "type"))
    (ic_InvalidSystem : PySem.W.isClsIn K A_InvalidSystem = true)
    (sc_InvalidSystem : PySem.W.subIn K (.ref A_InvalidSystem) (.ref A_InvalidSystem) = some true)
    (a_is_action : PySem.W.nsIn K mainGlobals "is_action" = some (some (.ref E_is_action)))
    (l_is_action : K.lookup E_is_action = some ⟨oc_is_action, od_is_action, .func (PySem.W.fnOf "is_action" "is_action" (defArgs s_is_action) (defBody s_is_action) (defScope s_is_action) .none kV_is_action dc_is_action pm_is_action an_is_action cd_is_action ct_is_action), sl_is_action⟩)
    (c_is_action : PySem.W.codeIn K cd_is_action "is_action" = true)
    (k_is_action : PySem.W.keepIn K (.ref E_is_action) = true)
    (a_places_of : PySem.W.nsIn K mainGlobals "places_of" = some (some (.ref E_places_of)))
    (l_places_of : K.lookup E_places_of = some ⟨oc_places_of, od_places_of, .func (PySem.W.fnOf "places_of" "places_of" (defArgs s_places_of) (defBody s_places_of) (defScope s_places_of) .none kV_places_of dc_places_of pm_places_of an_places_of cd_places_of ct_places_of), sl_places_of⟩)
    (c_places_of : PySem.W.codeIn K cd_places_of "places_of" = true)
    (k_places_of : PySem.W.keepIn K (.ref E_places_of) = true)
    (a_possible : PySem.W.nsIn K mainGlobals "possible" = some (some (.ref E_possible)))
    (l_possible : K.lookup E_possible = some ⟨oc_possible, od_possible, .func (PySem.W.fnOf "possible" "possible" (defArgs s_possible) (defBody s_possible) (defScope s_possible) .none kV_possible dc_possible pm_possible an_possible cd_possible ct_possible), sl_possible⟩)
    (c_possible : PySem.W.codeIn K cd_possible "possible" = true)
    (k_possible : PySem.W.keepIn K (.ref E_possible) = true)
    (a_moved : PySem.W.nsIn K mainGlobals "moved" = some (some (.ref E_moved)))
    (l_moved : K.lookup E_moved = some ⟨oc_moved, od_moved, .func (PySem.W.fnOf "moved" "moved" (defArgs s_moved) (defBody s_moved) (defScope s_moved) .none kV_moved dc_moved pm_moved an_moved cd_moved ct_moved), sl_moved⟩)
    (c_moved : PySem.W.codeIn K cd_moved "moved" = true)
    (k_moved : PySem.W.keepIn K (.ref E_moved) = true)
    (a__law_draws : PySem.W.nsIn K mainGlobals "_law_draws" = some (some (.ref E__law_draws)))
    (l__law_draws : K.lookup E__law_draws = some ⟨oc__law_draws, od__law_draws, .func (PySem.W.fnOf "_law_draws" "_law_draws" (defArgs s__law_draws) (defBody s__law_draws) (defScope s__law_draws) .none kV__law_draws dc__law_draws pm__law_draws an__law_draws cd__law_draws ct__law_draws), sl__law_draws⟩)
    (c__law_draws : PySem.W.codeIn K cd__law_draws "_law_draws" = true)
    (k__law_draws : PySem.W.keepIn K (.ref E__law_draws) = true)
    (a__law_take : PySem.W.nsIn K mainGlobals "_law_take" = some (some (.ref E__law_take)))
    (l__law_take : K.lookup E__law_take = some ⟨oc__law_take, od__law_take, .func (PySem.W.fnOf "_law_take" "_law_take" (defArgs s__law_take) (defBody s__law_take) (defScope s__law_take) .none kV__law_take dc__law_take pm__law_take an__law_take cd__law_take ct__law_take), sl__law_take⟩)
    (c__law_take : PySem.W.codeIn K cd__law_take "_law_take" = true)
    (k__law_take : PySem.W.keepIn K (.ref E__law_take) = true)
    (a__law_possible : PySem.W.nsIn K mainGlobals "_law_possible" = some (some (.ref E__law_possible)))
    (l__law_possible : K.lookup E__law_possible = some ⟨oc__law_possible, od__law_possible, .func (PySem.W.fnOf "_law_possible" "_law_possible" (defArgs s__law_possible) (defBody s__law_possible) (defScope s__law_possible) .none kV__law_possible dc__law_possible pm__law_possible an__law_possible cd__law_possible ct__law_possible), sl__law_possible⟩)
    (c__law_possible : PySem.W.codeIn K cd__law_possible "_law_possible" = true)
    (k__law_possible : PySem.W.keepIn K (.ref E__law_possible) = true)
    (a__law_moved : PySem.W.nsIn K mainGlobals "_law_moved" = some (some (.ref E__law_moved)))
    (l__law_moved : K.lookup E__law_moved = some ⟨oc__law_moved, od__law_moved, .func (PySem.W.fnOf "_law_moved" "_law_moved" (defArgs s__law_moved) (defBody s__law_moved) (defScope s__law_moved) .none kV__law_moved dc__law_moved pm__law_moved an__law_moved cd__law_moved ct__law_moved), sl__law_moved⟩)
    (c__law_moved : PySem.W.codeIn K cd__law_moved "_law_moved" = true)
    (k__law_moved : PySem.W.keepIn K (.ref E__law_moved) = true)
    (a__law_places : PySem.W.nsIn K mainGlobals "_law_places" = some (some (.ref E__law_places)))
    (l__law_places : K.lookup E__law_places = some ⟨oc__law_places, od__law_places, .func (PySem.W.fnOf "_law_places" "_law_places" (defArgs s__law_places) (defBody s__law_places) (defScope s__law_places) .none kV__law_places dc__law_places pm__law_places an__law_places cd__law_places ct__law_places), sl__law_places⟩)
    (c__law_places : PySem.W.codeIn K cd__law_places "_law_places" = true)
    (k__law_places : PySem.W.keepIn K (.ref E__law_places) = true)
    (a_System___init__ : PySem.W.findIn K (.ref A_System) "__init__" = some (some (.ref E_System___init__)))
    (i_System___init__ : PySem.W.isFn K (.ref E_System___init__) = true)
    (l_System___init__ : K.lookup E_System___init__ = some ⟨oc_System___init__, od_System___init__, .func (PySem.W.fnOf "__init__" "System.__init__" (defArgs s_System___init__) (defBody s_System___init__) (defScope s_System___init__) .none kV_System___init__ dc_System___init__ pm_System___init__ an_System___init__ cd_System___init__ ct_System___init__), sl_System___init__⟩)
    (c_System___init__ : PySem.W.codeIn K cd_System___init__ "System.__init__" = true)
    (k_System___init__ : PySem.W.keepIn K (.ref E_System___init__) = true)
    (a_are_apart : PySem.W.nsIn K mainGlobals "are_apart" = some (some (.ref E_are_apart)))
    (l_are_apart : K.lookup E_are_apart = some ⟨oc_are_apart, od_are_apart, .func (PySem.W.fnOf "are_apart" "are_apart" (defArgs s_are_apart) (defBody s_are_apart) (defScope s_are_apart) .none kV_are_apart dc_are_apart pm_are_apart an_are_apart cd_are_apart ct_are_apart), sl_are_apart⟩)
    (c_are_apart : PySem.W.codeIn K cd_are_apart "are_apart" = true)
    (k_are_apart : PySem.W.keepIn K (.ref E_are_apart) = true)
    (a_arising : PySem.W.nsIn K mainGlobals "arising" = some (some (.ref E_arising)))
    (l_arising : K.lookup E_arising = some ⟨oc_arising, od_arising, .func (PySem.W.fnOf "arising" "arising" (defArgs s_arising) (defBody s_arising) (defScope s_arising) .none kV_arising dc_arising pm_arising an_arising cd_arising ct_arising), sl_arising⟩)
    (c_arising : PySem.W.codeIn K cd_arising "arising" = true)
    (k_arising : PySem.W.keepIn K (.ref E_arising) = true)
    (a_states_behind : PySem.W.nsIn K mainGlobals "states_behind" = some (some (.ref E_states_behind)))
    (l_states_behind : K.lookup E_states_behind = some ⟨oc_states_behind, od_states_behind, .func (PySem.W.fnOf "states_behind" "states_behind" (defArgs s_states_behind) (defBody s_states_behind) (defScope s_states_behind) .none kV_states_behind dc_states_behind pm_states_behind an_states_behind cd_states_behind ct_states_behind), sl_states_behind⟩)
    (c_states_behind : PySem.W.codeIn K cd_states_behind "states_behind" = true)
    (k_states_behind : PySem.W.keepIn K (.ref E_states_behind) = true)
    (a__law_system : PySem.W.nsIn K mainGlobals "_law_system" = some (some (.ref E__law_system)))
    (l__law_system : K.lookup E__law_system = some ⟨oc__law_system, od__law_system, .func (PySem.W.fnOf "_law_system" "_law_system" (defArgs s__law_system) (defBody s__law_system) (defScope s__law_system) .none kV__law_system dc__law_system pm__law_system an__law_system cd__law_system ct__law_system), sl__law_system⟩)
    (c__law_system : PySem.W.codeIn K cd__law_system "_law_system" = true)
    (k__law_system : PySem.W.keepIn K (.ref E__law_system) = true)
    (a__law_arising : PySem.W.nsIn K mainGlobals "_law_arising" = some (some (.ref E__law_arising)))
    (l__law_arising : K.lookup E__law_arising = some ⟨oc__law_arising, od__law_arising, .func (PySem.W.fnOf "_law_arising" "_law_arising" (defArgs s__law_arising) (defBody s__law_arising) (defScope s__law_arising) .none kV__law_arising dc__law_arising pm__law_arising an__law_arising cd__law_arising ct__law_arising), sl__law_arising⟩)
    (c__law_arising : PySem.W.codeIn K cd__law_arising "_law_arising" = true)
    (k__law_arising : PySem.W.keepIn K (.ref E__law_arising) = true)
    (a__law_apart : PySem.W.nsIn K mainGlobals "_law_apart" = some (some (.ref E__law_apart)))
    (l__law_apart : K.lookup E__law_apart = some ⟨oc__law_apart, od__law_apart, .func (PySem.W.fnOf "_law_apart" "_law_apart" (defArgs s__law_apart) (defBody s__law_apart) (defScope s__law_apart) .none kV__law_apart dc__law_apart pm__law_apart an__law_apart cd__law_apart ct__law_apart), sl__law_apart⟩)
    (c__law_apart : PySem.W.codeIn K cd__law_apart "_law_apart" = true)
    (k__law_apart : PySem.W.keepIn K (.ref E__law_apart) = true)
    (a__law_run : PySem.W.nsIn K mainGlobals "_law_run" = some (some (.ref E__law_run)))
    (l__law_run : K.lookup E__law_run = some ⟨oc__law_run, od__law_run, .func (PySem.W.fnOf "_law_run" "_law_run" (defArgs s__law_run) (defBody s__law_run) (defScope s__law_run) .none kV__law_run dc__law_run pm__law_run an__law_run cd__law_run ct__law_run), sl__law_run⟩)
    (c__law_run : PySem.W.codeIn K cd__law_run "_law_run" = true)
    (k__law_run : PySem.W.keepIn K (.ref E__law_run) = true)
    (a__law_is_run : PySem.W.nsIn K mainGlobals "_law_is_run" = some (some (.ref E__law_is_run)))
    (l__law_is_run : K.lookup E__law_is_run = some ⟨oc__law_is_run, od__law_is_run, .func (PySem.W.fnOf "_law_is_run" "_law_is_run" (defArgs s__law_is_run) (defBody s__law_is_run) (defScope s__law_is_run) .none kV__law_is_run dc__law_is_run pm__law_is_run an__law_is_run cd__law_is_run ct__law_is_run), sl__law_is_run⟩)
    (c__law_is_run : PySem.W.codeIn K cd__law_is_run "_law_is_run" = true)
    (k__law_is_run : PySem.W.keepIn K (.ref E__law_is_run) = true)
    (a_stuck : PySem.W.nsIn K mainGlobals "stuck" = some (some (.ref E_stuck)))
    (l_stuck : K.lookup E_stuck = some ⟨oc_stuck, od_stuck, .func (PySem.W.fnOf "stuck" "stuck" (defArgs s_stuck) (defBody s_stuck) (defScope s_stuck) .none kV_stuck dc_stuck pm_stuck an_stuck cd_stuck ct_stuck), sl_stuck⟩)
    (c_stuck : PySem.W.codeIn K cd_stuck "stuck" = true)
    (k_stuck : PySem.W.keepIn K (.ref E_stuck) = true)
    (a_is_run : PySem.W.nsIn K mainGlobals "is_run" = some (some (.ref E_is_run)))
    (l_is_run : K.lookup E_is_run = some ⟨oc_is_run, od_is_run, .func (PySem.W.fnOf "is_run" "is_run" (defArgs s_is_run) (defBody s_is_run) (defScope s_is_run) .none kV_is_run dc_is_run pm_is_run an_is_run cd_is_run ct_is_run), sl_is_run⟩)
    (c_is_run : PySem.W.codeIn K cd_is_run "is_run" = true)
    (k_is_run : PySem.W.keepIn K (.ref E_is_run) = true)
    (a_below : PySem.W.nsIn K mainGlobals "below" = some (some (.ref E_below)))
    (l_below : K.lookup E_below = some ⟨oc_below, od_below, .func (PySem.W.fnOf "below" "below" (defArgs s_below) (defBody s_below) (defScope s_below) .none kV_below dc_below pm_below an_below cd_below ct_below), sl_below⟩)
    (c_below : PySem.W.codeIn K cd_below "below" = true)
    (k_below : PySem.W.keepIn K (.ref E_below) = true)
    (a__law_lower : PySem.W.nsIn K mainGlobals "_law_lower" = some (some (.ref E__law_lower)))
    (l__law_lower : K.lookup E__law_lower = some ⟨oc__law_lower, od__law_lower, .func (PySem.W.fnOf "_law_lower" "_law_lower" (defArgs s__law_lower) (defBody s__law_lower) (defScope s__law_lower) .none kV__law_lower dc__law_lower pm__law_lower an__law_lower cd__law_lower ct__law_lower), sl__law_lower⟩)
    (c__law_lower : PySem.W.codeIn K cd__law_lower "_law_lower" = true)
    (k__law_lower : PySem.W.keepIn K (.ref E__law_lower) = true)
    (a__law_made : PySem.W.nsIn K mainGlobals "_law_made" = some (some (.ref E__law_made)))
    (l__law_made : K.lookup E__law_made = some ⟨oc__law_made, od__law_made, .func (PySem.W.fnOf "_law_made" "_law_made" (defArgs s__law_made) (defBody s__law_made) (defScope s__law_made) .none kV__law_made dc__law_made pm__law_made an__law_made cd__law_made ct__law_made), sl__law_made⟩)
    (c__law_made : PySem.W.codeIn K cd__law_made "_law_made" = true)
    (k__law_made : PySem.W.keepIn K (.ref E__law_made) = true)
    (a__law_is_refused : PySem.W.nsIn K mainGlobals "_law_is_refused" = some (some (.ref E__law_is_refused)))
    (l__law_is_refused : K.lookup E__law_is_refused = some ⟨oc__law_is_refused, od__law_is_refused, .func (PySem.W.fnOf "_law_is_refused" "_law_is_refused" (defArgs s__law_is_refused) (defBody s__law_is_refused) (defScope s__law_is_refused) .none kV__law_is_refused dc__law_is_refused pm__law_is_refused an__law_is_refused cd__law_is_refused ct__law_is_refused), sl__law_is_refused⟩)
    (c__law_is_refused : PySem.W.codeIn K cd__law_is_refused "_law_is_refused" = true)
    (k__law_is_refused : PySem.W.keepIn K (.ref E__law_is_refused) = true)
    (a__law_faults_right : PySem.W.nsIn K mainGlobals "_law_faults_right" = some (some (.ref E__law_faults_right)))
    (l__law_faults_right : K.lookup E__law_faults_right = some ⟨oc__law_faults_right, od__law_faults_right, .func (PySem.W.fnOf "_law_faults_right" "_law_faults_right" (defArgs s__law_faults_right) (defBody s__law_faults_right) (defScope s__law_faults_right) .none kV__law_faults_right dc__law_faults_right pm__law_faults_right an__law_faults_right cd__law_faults_right ct__law_faults_right), sl__law_faults_right⟩)
    (c__law_faults_right : PySem.W.codeIn K cd__law_faults_right "_law_faults_right" = true)
    (k__law_faults_right : PySem.W.keepIn K (.ref E__law_faults_right) = true)
    (a__law_same : PySem.W.nsIn K mainGlobals "_law_same" = some (some (.ref E__law_same)))
    (l__law_same : K.lookup E__law_same = some ⟨oc__law_same, od__law_same, .func (PySem.W.fnOf "_law_same" "_law_same" (defArgs s__law_same) (defBody s__law_same) (defScope s__law_same) .none kV__law_same dc__law_same pm__law_same an__law_same cd__law_same ct__law_same), sl__law_same⟩)
    (c__law_same : PySem.W.codeIn K cd__law_same "_law_same" = true)
    (k__law_same : PySem.W.keepIn K (.ref E__law_same) = true)
    (a_law : PySem.W.nsIn K mainGlobals "law" = some (some (.ref E_law)))
    (l_law : K.lookup E_law = some ⟨oc_law, od_law, .func (PySem.W.fnOf "law" "law" (defArgs s_law) (defBody s_law) (defScope s_law) .none kV_law dc_law pm_law an_law cd_law ct_law), sl_law⟩)
    (c_law : PySem.W.codeIn K cd_law "law" = true)
    (k_law : PySem.W.keepIn K (.ref E_law) = true)
    (z_all : PySem.W.nsIn K mainGlobals "all" = some none)
    (z_any : PySem.W.nsIn K mainGlobals "any" = some none)
    (z_bool : PySem.W.nsIn K mainGlobals "bool" = some none)
    (z_dict : PySem.W.nsIn K mainGlobals "dict" = some none)
    (z_enumerate : PySem.W.nsIn K mainGlobals "enumerate" = some none)
    (z_int : PySem.W.nsIn K mainGlobals "int" = some none)
    (z_isinstance : PySem.W.nsIn K mainGlobals "isinstance" = some none)
    (z_len : PySem.W.nsIn K mainGlobals "len" = some none)
    (z_list : PySem.W.nsIn K mainGlobals "list" = some none)
    (z_range : PySem.W.nsIn K mainGlobals "range" = some none)
    (z_set : PySem.W.nsIn K mainGlobals "set" = some none)
    (z_sorted : PySem.W.nsIn K mainGlobals "sorted" = some none)
    (z_str : PySem.W.nsIn K mainGlobals "str" = some none)
    (z_tuple : PySem.W.nsIn K mainGlobals "tuple" = some none)
    (z_zip : PySem.W.nsIn K mainGlobals "zip" = some none)
    (v_MOST_ACTIONS : PySem.W.nsIn K mainGlobals "MOST_ACTIONS" = some (some (.int 24 t_MOST_ACTIONS)))
    (v_MOST_LABEL : PySem.W.nsIn K mainGlobals "MOST_LABEL" = some (some (.int 5 t_MOST_LABEL)))
    (v_MOST_PLACES : PySem.W.nsIn K mainGlobals "MOST_PLACES" = some (some (.int 4 t_MOST_PLACES)))
    (v_MOST_STATES : PySem.W.nsIn K mainGlobals "MOST_STATES" = some (some (.int 5 t_MOST_STATES))) :
    ∃ fd : FuncData, (∀ (s : Shared) (v : Value), BindsTo s fd ⟨[v], []⟩ [("script", v)]) ∧ ∀ base : Heap, K.In base → base.Ns mainGlobals mg → FnOk l.prog w K mg base (L2.CX l.prog w) 10 fa fd ["script"] (spB (cnK cls K) 1 B_law) := by
  have e := hfa.symm.trans (PySem.W.mg_of X G a_law)
  cases e
  have bt : Bt mg := ⟨PySem.W.mg_none_of X G z_all, PySem.W.mg_none_of X G z_any, PySem.W.mg_none_of X G z_bool, PySem.W.mg_none_of X G z_dict, PySem.W.mg_none_of X G z_enumerate, PySem.W.mg_none_of X G z_int, PySem.W.mg_none_of X G z_isinstance, PySem.W.mg_none_of X G z_len, PySem.W.mg_none_of X G z_list, PySem.W.mg_none_of X G z_range, PySem.W.mg_none_of X G z_set, PySem.W.mg_none_of X G z_sorted, PySem.W.mg_none_of X G z_str, PySem.W.mg_none_of X G z_tuple, PySem.W.mg_none_of X G z_zip⟩
  have cs : Cs mg := ⟨⟨_, PySem.W.mg_of X G v_MOST_ACTIONS⟩, ⟨_, PySem.W.mg_of X G v_MOST_LABEL⟩, ⟨_, PySem.W.mg_of X G v_MOST_PLACES⟩, ⟨_, PySem.W.mg_of X G v_MOST_STATES⟩⟩
  have hro : ∀ a ns H, (cnK cls K).ro a ns → SqL K H a (ns.map V.int) := fun _ _ _ z => .inr z
  have ad_System : (cnK cls K).ad 0 = A_System := cnK_ad rfl aC_System
  have C_System : ClF (cnK cls K) K 0 ["sizes", "starts", "actions"] := ⟨by rw [ad_System]; exact ⟨pg_System, hd_System, po_System, sa_System⟩, rfl, by rw [ad_System]; intro f hf; simp only [List.mem_cons, List.not_mem_nil, or_false] at hf; rcases hf with rfl | rfl | rfl <;> first | exact na_System_sizes | exact na_System_starts | exact na_System_actions⟩
  have ad_InvalidSystem : (cnK cls K).ad 1 = A_InvalidSystem := cnK_ad rfl aC_InvalidSystem
  have Ex_InvalidSystem : ExF K mg (cnK cls K) "InvalidSystem" 1 := by show ExFC K mg "InvalidSystem" ((cnK cls K).ad 1); rw [ad_InvalidSystem]; exact ⟨PySem.W.mg_of X G aC_InvalidSystem, ex_InvalidSystem, kc_InvalidSystem, sb_InvalidSystem, ty_InvalidSystem, exm_self' sb_InvalidSystem ic_InvalidSystem ty_InvalidSystem sc_InvalidSystem⟩
  have F_is_action := fun_mk (st := s_is_action) l_is_action c_is_action k_is_action
  have b_is_action := F_is_action.binds (ps := ["sizes", "action"]) fun _ _ _ _ _ _ us hl => match us, hl with | [_, _], _ => rfl
  have F_places_of := fun_mk (st := s_places_of) l_places_of c_places_of k_places_of
  have b_places_of := F_places_of.binds (ps := ["system", "action"]) fun _ _ _ _ _ _ us hl => match us, hl with | [_, _], _ => rfl
  have F_possible := fun_mk (st := s_possible) l_possible c_possible k_possible
  have b_possible := F_possible.binds (ps := ["system", "states"]) fun _ _ _ _ _ _ us hl => match us, hl with | [_, _], _ => rfl
  have F_moved := fun_mk (st := s_moved) l_moved c_moved k_moved
  have b_moved := F_moved.binds (ps := ["system", "states", "action"]) fun _ _ _ _ _ _ us hl => match us, hl with | [_, _, _], _ => rfl
  have F__law_draws := fun_mk (st := s__law_draws) l__law_draws c__law_draws k__law_draws
  have b__law_draws := F__law_draws.binds (ps := ["script", "count"]) fun _ _ _ _ _ _ us hl => match us, hl with | [_, _], _ => rfl
  have F__law_take := fun_mk (st := s__law_take) l__law_take c__law_take k__law_take
  have b__law_take := F__law_take.binds (ps := ["draws", "limit"]) fun _ _ _ _ _ _ us hl => match us, hl with | [_, _], _ => rfl
  have F__law_possible := fun_mk (st := s__law_possible) l__law_possible c__law_possible k__law_possible
  have b__law_possible := F__law_possible.binds (ps := ["system", "states"]) fun _ _ _ _ _ _ us hl => match us, hl with | [_, _], _ => rfl
  have F__law_moved := fun_mk (st := s__law_moved) l__law_moved c__law_moved k__law_moved
  have b__law_moved := F__law_moved.binds (ps := ["system", "states", "action"]) fun _ _ _ _ _ _ us hl => match us, hl with | [_, _, _], _ => rfl
  have F__law_places := fun_mk (st := s__law_places) l__law_places c__law_places k__law_places
  have b__law_places := F__law_places.binds (ps := ["system", "action"]) fun _ _ _ _ _ _ us hl => match us, hl with | [_, _], _ => rfl
  have F_System___init__ := fun_mk (st := s_System___init__) l_System___init__ c_System___init__ k_System___init__
  have b_System___init__ := F_System___init__.binds (ps := ["self", "sizes", "starts", "actions"]) fun _ _ _ _ _ _ us hl => match us, hl with | [_, _, _, _], _ => rfl
  have F_are_apart := fun_mk (st := s_are_apart) l_are_apart c_are_apart k_are_apart
  have b_are_apart := F_are_apart.binds (ps := ["system", "first", "second"]) fun _ _ _ _ _ _ us hl => match us, hl with | [_, _, _], _ => rfl
  have F_arising := fun_mk (st := s_arising) l_arising c_arising k_arising
  have b_arising := F_arising.binds (ps := ["system"]) fun _ _ _ _ _ _ us hl => match us, hl with | [_], _ => rfl
  have F_states_behind := fun_mk (st := s_states_behind) l_states_behind c_states_behind k_states_behind
  have b_states_behind := F_states_behind.binds (ps := ["system", "run"]) fun _ _ _ _ _ _ us hl => match us, hl with | [_, _], _ => rfl
  have F__law_system := fun_mk (st := s__law_system) l__law_system c__law_system k__law_system
  have b__law_system := F__law_system.binds (ps := ["draws", "most_places", "most_size", "most_actions", "labels"]) fun _ _ _ _ _ _ us hl => match us, hl with | [_, _, _, _, _], _ => rfl
  have F__law_arising := fun_mk (st := s__law_arising) l__law_arising c__law_arising k__law_arising
  have b__law_arising := F__law_arising.binds (ps := ["system", "limit"]) fun _ _ _ _ _ _ us hl => match us, hl with | [_, _], _ => rfl
  have F__law_apart := fun_mk (st := s__law_apart) l__law_apart c__law_apart k__law_apart
  have b__law_apart := F__law_apart.binds (ps := ["system", "one", "other"]) fun _ _ _ _ _ _ us hl => match us, hl with | [_, _, _], _ => rfl
  have F__law_run := fun_mk (st := s__law_run) l__law_run c__law_run k__law_run
  have b__law_run := F__law_run.binds (ps := ["draws", "system", "most"]) fun _ _ _ _ _ _ us hl => match us, hl with | [_, _, _], _ => rfl
  have F__law_is_run := fun_mk (st := s__law_is_run) l__law_is_run c__law_is_run k__law_is_run
  have b__law_is_run := F__law_is_run.binds (ps := ["system", "run"]) fun _ _ _ _ _ _ us hl => match us, hl with | [_, _], _ => rfl
  have F_stuck := fun_mk (st := s_stuck) l_stuck c_stuck k_stuck
  have b_stuck := F_stuck.binds (ps := ["system"]) fun _ _ _ _ _ _ us hl => match us, hl with | [_], _ => rfl
  have F_is_run := fun_mk (st := s_is_run) l_is_run c_is_run k_is_run
  have b_is_run := F_is_run.binds (ps := ["system", "run"]) fun _ _ _ _ _ _ us hl => match us, hl with | [_, _], _ => rfl
  have F_below := fun_mk (st := s_below) l_below c_below k_below
  have b_below := F_below.binds (ps := ["system", "run"]) fun _ _ _ _ _ _ us hl => match us, hl with | [_, _], _ => rfl
  have F__law_lower := fun_mk (st := s__law_lower) l__law_lower c__law_lower k__law_lower
  have b__law_lower := F__law_lower.binds (ps := ["system", "run"]) fun _ _ _ _ _ _ us hl => match us, hl with | [_, _], _ => rfl
  have F__law_made := fun_mk (st := s__law_made) l__law_made c__law_made k__law_made
  have b__law_made := F__law_made.binds (ps := ["system"]) fun _ _ _ _ _ _ us hl => match us, hl with | [_], _ => rfl
  have F__law_is_refused := fun_mk (st := s__law_is_refused) l__law_is_refused c__law_is_refused k__law_is_refused
  have b__law_is_refused := F__law_is_refused.binds (ps := ["sizes", "starts", "deeds"]) fun _ _ _ _ _ _ us hl => match us, hl with | [_, _, _], _ => rfl
  have F__law_faults_right := fun_mk (st := s__law_faults_right) l__law_faults_right c__law_faults_right k__law_faults_right
  have b__law_faults_right := F__law_faults_right.binds (ps := ["draws"]) fun _ _ _ _ _ _ us hl => match us, hl with | [_], _ => rfl
  have F__law_same := fun_mk (st := s__law_same) l__law_same c__law_same k__law_same
  have b__law_same := F__law_same.binds (ps := ["found", "due"]) fun _ _ _ _ _ _ us hl => match us, hl with | [_, _], _ => rfl
  have F_law := fun_mk (st := s_law) l_law c_law k_law
  have b_law := F_law.binds (ps := ["script"]) fun _ _ _ _ _ _ us hl => match us, hl with | [_], _ => rfl
  have M_System : Mf K mg (cnK cls K) "System" 0 ["self", "sizes", "starts", "actions"] A_System E_System___init__ _ := ⟨ad_System, ⟨mk_System, a_System___init__, i_System___init__, kc_System⟩, PySem.W.mg_of X G aC_System, b_System___init__⟩
  refine ⟨(PySem.W.fnOf "law" "law" (defArgs s_law) (defBody s_law) (defScope s_law) .none kV_law dc_law pm_law an_law cd_law ct_law), fun s v => .of_eq rfl, fun base _ _ => ?_⟩
  have G_is_action := ok_is_action (P := l.prog) (w := w) (mg := mg) (base := base) (ca := cnK cls K) F_is_action bt cs
  have G_places_of := ok_places_of (P := l.prog) (w := w) (mg := mg) (base := base) (ca := cnK cls K) F_places_of C_System
  have G_possible := ok_possible (P := l.prog) (w := w) (mg := mg) (base := base) (ca := cnK cls K) F_possible bt C_System
  have G_moved := ok_moved (P := l.prog) (w := w) (mg := mg) (base := base) (ca := cnK cls K) F_moved bt C_System
  have G__law_draws := ok__law_draws (P := l.prog) (w := w) (mg := mg) (base := base) (ca := cnK cls K) F__law_draws bt hro
  have G__law_take := ok__law_take (P := l.prog) (w := w) (mg := mg) (base := base) (ca := cnK cls K) F__law_take bt
  have G__law_possible := ok__law_possible (P := l.prog) (w := w) (mg := mg) (base := base) (ca := cnK cls K) F__law_possible bt
  have G__law_moved := ok__law_moved (P := l.prog) (w := w) (mg := mg) (base := base) (ca := cnK cls K) F__law_moved bt
  have G__law_places := ok__law_places (P := l.prog) (w := w) (mg := mg) (base := base) (ca := cnK cls K) F__law_places
  have G_System___init__ := ok_System___init__ (P := l.prog) (w := w) (mg := mg) (base := base) (ca := cnK cls K) F_System___init__ bt cs C_System Ex_InvalidSystem ⟨F_is_action, PySem.W.mg_of X G a_is_action, b_is_action⟩ G_is_action
  have G_are_apart := ok_are_apart (P := l.prog) (w := w) (mg := mg) (base := base) (ca := cnK cls K) F_are_apart bt ⟨F_places_of, PySem.W.mg_of X G a_places_of, b_places_of⟩ G_places_of
  have G_arising := ok_arising (P := l.prog) (w := w) (mg := mg) (base := base) (ca := cnK cls K) F_arising bt C_System ⟨F_possible, PySem.W.mg_of X G a_possible, b_possible⟩ G_possible ⟨F_moved, PySem.W.mg_of X G a_moved, b_moved⟩ G_moved
  have G_states_behind := ok_states_behind (P := l.prog) (w := w) (mg := mg) (base := base) (ca := cnK cls K) F_states_behind C_System ⟨F_possible, PySem.W.mg_of X G a_possible, b_possible⟩ G_possible ⟨F_moved, PySem.W.mg_of X G a_moved, b_moved⟩ G_moved
  have G__law_system := ok__law_system (P := l.prog) (w := w) (mg := mg) (base := base) (ca := cnK cls K) F__law_system bt ⟨F__law_take, PySem.W.mg_of X G a__law_take, b__law_take⟩ G__law_take
  have G__law_arising := ok__law_arising (P := l.prog) (w := w) (mg := mg) (base := base) (ca := cnK cls K) F__law_arising bt ⟨F__law_possible, PySem.W.mg_of X G a__law_possible, b__law_possible⟩ G__law_possible ⟨F__law_moved, PySem.W.mg_of X G a__law_moved, b__law_moved⟩ G__law_moved
  have G__law_apart := ok__law_apart (P := l.prog) (w := w) (mg := mg) (base := base) (ca := cnK cls K) F__law_apart bt ⟨F__law_places, PySem.W.mg_of X G a__law_places, b__law_places⟩ G__law_places
  have G__law_run := ok__law_run (P := l.prog) (w := w) (mg := mg) (base := base) (ca := cnK cls K) F__law_run bt ⟨F__law_take, PySem.W.mg_of X G a__law_take, b__law_take⟩ G__law_take ⟨F__law_possible, PySem.W.mg_of X G a__law_possible, b__law_possible⟩ G__law_possible ⟨F__law_moved, PySem.W.mg_of X G a__law_moved, b__law_moved⟩ G__law_moved
  have G__law_is_run := ok__law_is_run (P := l.prog) (w := w) (mg := mg) (base := base) (ca := cnK cls K) F__law_is_run ⟨F__law_possible, PySem.W.mg_of X G a__law_possible, b__law_possible⟩ G__law_possible ⟨F__law_moved, PySem.W.mg_of X G a__law_moved, b__law_moved⟩ G__law_moved
  have G_stuck := ok_stuck (P := l.prog) (w := w) (mg := mg) (base := base) (ca := cnK cls K) F_stuck ⟨F_arising, PySem.W.mg_of X G a_arising, b_arising⟩ G_arising ⟨F_possible, PySem.W.mg_of X G a_possible, b_possible⟩ G_possible
  have G_is_run := ok_is_run (P := l.prog) (w := w) (mg := mg) (base := base) (ca := cnK cls K) F_is_run ⟨F_states_behind, PySem.W.mg_of X G a_states_behind, b_states_behind⟩ G_states_behind
  have G_below := ok_below (P := l.prog) (w := w) (mg := mg) (base := base) (ca := cnK cls K) F_below bt ⟨F_are_apart, PySem.W.mg_of X G a_are_apart, b_are_apart⟩ G_are_apart
  have G__law_lower := ok__law_lower (P := l.prog) (w := w) (mg := mg) (base := base) (ca := cnK cls K) F__law_lower bt ⟨F__law_apart, PySem.W.mg_of X G a__law_apart, b__law_apart⟩ G__law_apart
  have G__law_made := ok__law_made (P := l.prog) (w := w) (mg := mg) (base := base) (ca := cnK cls K) F__law_made bt M_System G_System___init__
  have G__law_is_refused := ok__law_is_refused (P := l.prog) (w := w) (mg := mg) (base := base) (ca := cnK cls K) F__law_is_refused Ex_InvalidSystem M_System G_System___init__
  have G__law_faults_right := ok__law_faults_right (P := l.prog) (w := w) (mg := mg) (base := base) (ca := cnK cls K) F__law_faults_right ⟨F__law_take, PySem.W.mg_of X G a__law_take, b__law_take⟩ G__law_take ⟨F__law_is_refused, PySem.W.mg_of X G a__law_is_refused, b__law_is_refused⟩ G__law_is_refused
  have G__law_same := ok__law_same (P := l.prog) (w := w) (mg := mg) (base := base) (ca := cnK cls K) ⟨F__law_same, PySem.W.mg_of X G a__law_same, b__law_same⟩ bt
  have G_law := ok_law (P := l.prog) (w := w) (mg := mg) (base := base) (ca := cnK cls K) F_law bt C_System ⟨F__law_draws, PySem.W.mg_of X G a__law_draws, b__law_draws⟩ G__law_draws ⟨F__law_system, PySem.W.mg_of X G a__law_system, b__law_system⟩ G__law_system ⟨F__law_made, PySem.W.mg_of X G a__law_made, b__law_made⟩ G__law_made ⟨F__law_same, PySem.W.mg_of X G a__law_same, b__law_same⟩ (G__law_same 8) ⟨F__law_faults_right, PySem.W.mg_of X G a__law_faults_right, b__law_faults_right⟩ G__law_faults_right ⟨F__law_arising, PySem.W.mg_of X G a__law_arising, b__law_arising⟩ G__law_arising ⟨F_arising, PySem.W.mg_of X G a_arising, b_arising⟩ G_arising ⟨F_stuck, PySem.W.mg_of X G a_stuck, b_stuck⟩ G_stuck ⟨F__law_possible, PySem.W.mg_of X G a__law_possible, b__law_possible⟩ G__law_possible ⟨F__law_take, PySem.W.mg_of X G a__law_take, b__law_take⟩ G__law_take ⟨F_possible, PySem.W.mg_of X G a_possible, b_possible⟩ G_possible ⟨F_moved, PySem.W.mg_of X G a_moved, b_moved⟩ G_moved ⟨F__law_moved, PySem.W.mg_of X G a__law_moved, b__law_moved⟩ G__law_moved ⟨F__law_run, PySem.W.mg_of X G a__law_run, b__law_run⟩ G__law_run ⟨F_is_run, PySem.W.mg_of X G a_is_run, b_is_run⟩ G_is_run ⟨F_below, PySem.W.mg_of X G a_below, b_below⟩ G_below ⟨F__law_lower, PySem.W.mg_of X G a__law_lower, b__law_lower⟩ G__law_lower ⟨F__law_is_run, PySem.W.mg_of X G a__law_is_run, b__law_is_run⟩ G__law_is_run
  exact G_law
theorem walk {l : PySem.W.OpenLaw} {q : Program} {loose : List Str} {XP : (Str → Option Value) → Heap → Prop} {YP : World → Heap → Prop} {d : DefRec} {K : Params → PySem.W.Frag} (hn : l.most = some 63) (hdf : d.params.defaults = []) (hlaw : ∀ ns : List Int, ns.length ≤ 63 → ∃ h, B_law 0 [.ro ns] [] = .ret (.v (.bl true)) h)
    (hY : ∀ (w : World) (h : Heap), YP w h → (K w.params).In h)
    (F : ∀ (w : World) (mg : Str → Option Value) (fa : Addr) (h : Heap), (K w.params).In h → h.Ns mainGlobals mg → mg d.name = some (.ref fa) →
      ∃ fd : FuncData, (∀ (s : Shared) (u : Value), BindsTo s fd ⟨[u], []⟩ [("script", u)]) ∧ ∀ base : Heap, (K w.params).In base → base.Ns mainGlobals mg → FnOk l.prog w (K w.params) mg base (L2.CX l.prog w) 10 fa fd ["script"] (spB (cnK cls (K w.params)) 1 B_law)) :
    PySem.W.WalkO q loose XP YP l.row.toRowW d [] (fun f vs => PySem.call f vs) :=
  L2.walk_of (n := 63) (k := 10) (x := "script") (CX := fun w => L2.CX l.prog w) (sp := fun w => spB (cnK cls (K w.params)) 1 B_law) hn (by decide) hdf ⟨rfl, by decide, by decide⟩ hY F (fun _ _ a ns hl hO hS => entry hO hS (hlaw ns hl)) fun _ _ _ _ _ z => cx_end z
end K73
set_option Elab.async false
set_option linter.all false
set_option maxRecDepth 100000
set_option maxHeartbeats 1000000
/-! the law's draws. -/
namespace K73
open PySem PySem.Spec L2 Z
/-- one draw -/
theorem take_eq {h : Own} {d : Nat} {ds : List Int} {n : Nat} (hd : Dr h d ds) (hn : 0 < n) : ∃ (r : Nat) (ds' : List Int), r < n ∧ callB B__law_take [.ref d, .int (n : Int)] h = .ok (.v (nD r)) (h.set d (iL ds')) := by
  have hlt : d < h.length := (List.getElem?_eq_some_iff.mp hd).1
  have hd' : h[d]? = some (.lst (ds.map .int)) := hd
  unfold callB
  rcases List.eq_nil_or_concat ds with rfl | ⟨xs, x, rfl⟩
  · refine ⟨0, [], hn, ?_⟩
    have : B__law_take h.length [.ref d, .int (n : Int)] h = .ret (.v (.int 0)) h := by
      unfold B__law_take body S__law_take
      simp [sSeq, hd']
    rw [this]
    have e2 : h.set d (iL []) = h := by
      apply List.ext_getElem?
      intro i
      rw [List.getElem?_set]
      split
      · rename_i e; subst e; simp [hlt]; exact (Option.some.inj ((List.getElem?_eq_getElem hlt).symm.trans hd)).symm
      · rfl
    rw [e2]
    show exitR h.length (.v (.int 0)) h = _
    unfold exitR
    dsimp only
    rw [if_pos (by rfl), List.take_length]
    rfl
  · have hn' : (0 : Int) < n := by omega
    simp only [List.concat_eq_append] at hd hd'
    have h0 : 0 ≤ x % (n : Int) := Int.emod_nonneg _ (by omega)
    have h1 : x % (n : Int) < n := Int.emod_lt_of_pos _ hn'
    refine ⟨(x % (n : Int)).toNat, xs, by omega, ?_⟩
    have e3 : fPop (.ref d) [] h.length h = .ok (.v (.int x)) (h.set d (.lst (xs.map .int))) := fPop_eq (by rw [hd']; simp) (.inr (nrf_iL xs))
    have : B__law_take h.length [.ref d, .int (n : Int)] h = .ret (.v (.int (x % (n : Int)))) (h.set d (iL xs)) := by
      unfold B__law_take body S__law_take
      have nz : ¬ ((xs.length : Int) + 1 = 0) := by omega
      simp [sSeq, hd', nz, e3, iL, hn]
    rw [this]
    show exitR h.length (.v (.int (x % (n : Int)))) _ = _
    unfold exitR
    dsimp only
    rw [if_pos (by rfl), List.take_of_length_le (by simp)]
    congr 3
    show _ = (((x % (n : Int)).toNat : Nat) : Int)
    omega
theorem Dq_draw {h H : Own} {d n : Nat} (D : Dq h d H) (hn : 0 < n) : ∃ (r : Nat) (H' : Own), r < n ∧ callB B__law_take [.ref d, nD n] H = .ok (.v (nD r)) H' ∧ Dq h d H' ∧ H'.length = H.length ∧ ∀ i, i ≠ d → H'[i]? = H[i]? := by
  obtain ⟨ds, hd⟩ := D.dr
  obtain ⟨r, ds', hr, e⟩ := take_eq hd hn
  refine ⟨r, H.set d (iL ds'), hr, e, ?_, by simp, fun i hi => by rw [List.getElem?_set, if_neg (Ne.symm hi)]⟩
  obtain ⟨ds0, l, rfl⟩ := D.ex
  refine ⟨D.lt, ds', l, ?_⟩
  rw [hp_setl (by simpa using D.lt)]
  simp
section
variable {bb : Nat} {s : Sl} {h : Own}
theorem mixE {a b c d e f m x k : Int} (h4 : s[4]? = some (some (.int m))) (h5 : s[5]? = some (some (.int k))) (h7 : s[7]? = some (some (.int x))) (ha : -(2 ^ 64) < a ∧ a < 2 ^ 64) (hb : 0 < b) (hc : -(2 ^ 64) < c ∧ c < 2 ^ 64) (hd : -(2 ^ 64) < d ∧ d < 2 ^ 64) (hf : 0 < f) :
    ed (e2 fMod (ed (eA fInt (aCons (ed (e2 fAdd (ed (e2 fAdd (ed (e2 fAdd (ed (e2 fMulA (eVar 4) (eC (.int a)))) (ed (e2 fMulA (ed (e2 fMod (ed (eA fInt (aCons (eVar 7) aNil))) (eC (.int b)))) (eC (.int c)))))) (ed (e2 fMulA (eVar 5) (eC (.int d)))))) (eC (.int e)))) aNil))) (eC (.int f))) ⟨bb, s⟩ h = .ok (.int ((m * a + x % b * c + k * d + e) % f)) h := by
  simp [h4, h5, h7, fMulA_r ha, fMulA_r hc, fMulA_r hd, hb, hf]
theorem againE {a f m k : Int} (h4 : s[4]? = some (some (.int m))) (h5 : s[5]? = some (some (.int k))) (hm : -(2 ^ 64) < m ∧ m < 2 ^ 64) (hf : 0 < f) :
    ed (e2 fMod (ed (eA fInt (aCons (ed (e2 fAdd (ed (e2 fAdd (ed (e2 fMulA (eVar 4) (eVar 4))) (ed (e2 fMulA (eC (.int a)) (eVar 4))))) (eVar 5))) aNil))) (eC (.int f))) ⟨bb, s⟩ h = .ok (.int ((m * m + a * m + k) % f)) h := by
  simp [h4, h5, fMulA_r hm, hf]
theorem geE {p q x : Int} (h7 : s[7]? = some (some (.int x))) (hq : 0 ≤ q ∧ q ≤ 1000000 ∧ p.natAbs < 2 ^ 64) : ∃ k, eTB (e2 fGe (eVar 7) (ed (e2 fPow (eC (.int p)) (eC (.int q))))) ⟨bb, s⟩ h = .ok k h := by
  refine ⟨decide (p ^ q.toNat ≤ x), ?_⟩
  simp only [eTB_eq, e2_eq, eVar_eq, h7, Res.bind_ok, ed_eq, eC_eq, fPow_ii]
  rw [if_pos hq]
  rfl
theorem modE {i : Nat} {a x : Int} (hi : s[i]? = some (some (.int x))) (ha : 0 < a) : ed (e2 fMod (ed (eA fInt (aCons (eVar i) aNil))) (eC (.int a))) ⟨bb, s⟩ h = .ok (.int (x % a)) h := by
  simp [hi, ha]
theorem divE {i : Nat} {a x : Int} (hi : s[i]? = some (some (.int x))) (ha : 0 < a ∧ a < 1073741824) : ed (e2 fDiv (eVar i) (eC (.int a))) ⟨bb, s⟩ h = .ok (.int (x / a)) h := by
  simp [hi, ha]
end
inductive DrI (NN : Nat) (h : Own) (sc : Z.D) (c f : Nat) (k : Nat) (s : Sl) (H : Own) : Prop
  | mk (cells found : List Int) (mixed : Int) (hc : h.length ≤ c) (hf : h.length ≤ f) (cf : c ≠ f) (m0 : 0 ≤ mixed) (m1 : mixed < 2147483647) (cn : cells ≠ []) (cl : cells.length ≤ 100) (fl : found.length = k)
    (hs : s = [some sc, some (.int (NN : Int)), some (.ref c), some (.ref f), some (.int mixed), none, none, none, none]) (hC : H[c]? = some (iL cells)) (hF : H[f]? = some (iL found)) (hk : H.take h.length = h)
theorem law_draws_eq {ns : List Int} (NN : Nat) (hN : NN ≤ 1000) (hn : ns.length ≤ 63) (h : Own) : ∃ ds, callB B__law_draws [.ro ns, .int (NN : Int)] h = .ok (.n (iL ds)) h := by
  have main : ∃ (o : O) (h1 : Own), ((∃ ds, o = iL ds) ∧ h1.take h.length = h) ∧ callB B__law_draws [.ro ns, .int (NN : Int)] h = .ok (.n o) (h1.take h.length) := by
    refine call_xr ?_
    unfold B__law_draws body S__law_draws
    have loop : ∀ (c f : Nat) (H : Own), DrI NN h (.ro ns) c f 0 [some (.ro ns), some (.int (NN : Int)), some (.ref c), some (.ref f), some (.int 12345), none, none, none, none] H →
        W (forGo none (tN 5) (sSeq (sSet 6 (ed (e2 fMod (eVar 5) (ed (eA fLen (aCons (eVar 2) aNil))))))
  (sSeq (sSet 7 (ed (e2 fIx (eVar 2) (eVar 6))))
  (sSeq (sSet 4 (ed (e2 fMod (ed (eA fInt (aCons (ed (e2 fAdd (ed (e2 fAdd (ed (e2 fAdd (ed (e2 fMulA (eVar 4) (eC (.int 48271)))) (ed (e2 fMulA (ed (e2 fMod (ed (eA fInt (aCons (eVar 7) aNil))) (eC (.int 1000003)))) (eC (.int 69621)))))) (ed (e2 fMulA (eVar 5) (eC (.int 7919)))))) (eC (.int 11)))) aNil))) (eC (.int 2147483647)))))
  (sSeq (sSet 8 (ed (e2 fMod (ed (eA fInt (aCons (ed (e2 fAdd (ed (e2 fAdd (ed (e2 fMulA (eVar 4) (eVar 4))) (ed (e2 fMulA (eC (.int 31)) (eVar 4))))) (eVar 5))) aNil))) (eC (.int 1000003)))))
  (sIf (eTB (e2 fGe (eVar 7) (ed (e2 fPow (eC (.int 10)) (eC (.int 18)))))) (sSeq (sX (ed (eM "list" fAppend (eVar 3) (aCons (ed (e2 fMod (ed (eA fInt (aCons (eVar 7) aNil))) (eC (.int 1000)))) aNil))))
  (sPut (eVar 2) (eVar 6) (ed (e2 fDiv (eVar 7) (eC (.int 1000)))))) (sX (ed (eM "list" fAppend (eVar 3) (aCons (ed (e2 fMod (ed (eA fInt (aCons (eVar 8) aNil))) (eC (.int 1000)))) aNil))))))))) [5, 6, 7, 8] h.length (rngD 0 NN) [some (.ro ns), some (.int (NN : Int)), some (.ref c), some (.ref f), some (.int 12345), none, none, none, none] H)
          (fun r => ∃ s H', r = .next s H' ∧ DrI NN h (.ro ns) c f NN s H') := by
      intro c f H i0
      refine W_range _ (DrI NN h (.ro ns) c f) i0 ?_ (fun s H i => ⟨_, _, rfl, i⟩)
      rintro k s H hk ⟨cells, found, mixed, hc, hf, cf, m0, m1, cn, cl, fl, rfl, hC, hF, hkp⟩
      refine ⟨_, _, rfl, ?_⟩
      have hpos : 0 < cells.length := List.length_pos_iff.mpr cn
      have ej : ((k : Int) % (cells.length : Int)) = ((k % cells.length : Nat) : Int) := by simp
      have hj : k % cells.length < cells.length := Nat.mod_lt _ hpos
      have hC' : H[c]? = some (.lst (cells.map .int)) := hC
      have hF' : H[f]? = some (.lst (found.map .int)) := hF
      have ix : fIx (.ref c) (.int ((k % cells.length : Nat) : Int)) H = .ok (.v (.int cells[k % cells.length])) H := fIx_q (ds := cells.map .int) (by rw [asQ_ref', hC']) rfl (by rw [List.getElem?_map, List.getElem?_eq_getElem hj]; rfl)
      have hll : found.length < sizeLine := szl (by omega)
      generalize cells[k % cells.length] = cell at *
      generalize k % cells.length = j at *
      simp only [W_seq]
      have st6 : ∀ (sl : Sl), ed (e2 fMod (eVar 5) (ed (eA fLen (aCons (eVar 2) aNil)))) ⟨h.length, [some (.ro ns), some (.int (NN : Int)), some (.ref c), some (.ref f), some (.int mixed), some (.int (k : Int)), none, none, none]⟩ H = .ok (.int (j : Int)) H := fun _ => by
        simp [hC', hpos, ej]
      simp only [W_seq, sSet_eq, sE_eq, tN_eq, st6 [], W_th_next, List.set_cons_succ, List.set_cons_zero]
      have st7 : ed (e2 fIx (eVar 2) (eVar 6)) ⟨h.length, [some (.ro ns), some (.int (NN : Int)), some (.ref c), some (.ref f), some (.int mixed), some (.int (k : Int)), some (.int (j : Int)), none, none]⟩ H = .ok (.int cell) H := by
        simp [ix]
      simp only [W_seq, sSet_eq, sE_eq, st7, W_th_next, List.set_cons_succ, List.set_cons_zero]
      rw [mixE rfl rfl rfl (small64 (by decide) (by decide)) (by decide) (small64 (by decide) (by decide)) (small64 (by decide) (by decide)) (by decide)]
      obtain ⟨M, hM, M0, M1⟩ : ∃ M, (mixed * 48271 + cell % 1000003 * 69621 + (k : Int) * 7919 + 11) % 2147483647 = M ∧ 0 ≤ M ∧ M < 2147483647 := ⟨_, rfl, Int.emod_nonneg _ (by decide), Int.emod_lt_of_pos _ (by decide)⟩
      rw [hM]
      simp only [W_seq, sSet_eq, sE_eq, W_th_next, List.set_cons_succ, List.set_cons_zero]
      rw [againE rfl rfl (small64 (by omega) (by omega)) (by decide)]
      obtain ⟨N, hN⟩ : ∃ N, (M * M + 31 * M + (k : Int)) % 1000003 = N := ⟨_, rfl⟩
      rw [hN]
      simp only [W_th_next, List.set_cons_succ, List.set_cons_zero, sIf_eq, sE_eq]
      obtain ⟨big, hbig⟩ := geE (bb := h.length) (s := [some (.ro ns), some (.int (NN : Int)), some (.ref c), some (.ref f), some (.int M), some (.int (k : Int)), some (.int (j : Int)), some (.int cell), some (.int N)]) (h := H) (p := 10) (q := 18) (x := cell) rfl (by decide)
      rw [hbig]
      cases big with
      | true =>
        have ep : ∀ u v : Int, fPut h.length (.ref c) (.int (j : Int)) (.int v) (H.set f (.lst (found.map .int ++ [.int u]))) = some ((H.set f (.lst (found.map .int ++ [.int u]))).set c (.lst ((cells.map .int).set j (.int v)))) := fun u v => fPut_lst hc (by simpa using hj) (by rw [get_set_ne (Ne.symm cf), hC'])
        simp [hF', hll, putO_own hf, ep]
        refine ⟨cells.set j (cell / 1000), found ++ [cell % 1000], M, hc, hf, cf, by omega, by omega, ?_, by simpa using cl, by simp [fl], rfl, ?_, ?_, ?_⟩
        · intro z
          have := congrArg List.length z
          simp at this
          exact cn this
        · rw [get_set_self (by rw [List.length_set]; exact lt_of_get hC'), iL, List.map_set]
        · rw [get_set_ne cf, get_set_self (lt_of_get hF'), iL]
          simp
        · rw [take_set hc, take_set hf, hkp]
      | false =>
        simp [hF', hll, putO_own hf]
        refine ⟨cells, found ++ [N % 1000], M, hc, hf, cf, by omega, by omega, cn, cl, by simp [fl], rfl, ?_, ?_, ?_⟩
        · rw [get_set_ne (Ne.symm cf), hC]
        · rw [get_set_self (lt_of_get hF'), iL]
          simp
        · rw [take_set hf, hkp]
    have fin : ∀ (s : Sl) (H : Own) (c f : Nat), DrI NN h (.ro ns) c f NN s H → W (sSeq (sX (ed (eM "list" fReverse (eVar 3) aNil))) (sRet (ev (eVar 3))) ⟨h.length, s⟩ H) fun r => ∃ m o h1, r = .ret (.v (.ref m)) h1 ∧ h.length ≤ m ∧ h1[m]? = some o ∧ nrfO o = true ∧ notDead o = true ∧ ((∃ ds, o = iL ds) ∧ h1.take h.length = h) := by
      rintro s H c f ⟨cells, found, mixed, hc, hf, cf, m0, m1, cn, cl, fl, rfl, hC, hF, hkp⟩
      have hF' : H[f]? = some (.lst (found.map .int)) := hF
      have er : fReverse (.ref f) [] h.length H = .ok (.v .non) (H.set f (.lst (found.map .int).reverse)) := by
        unfold fReverse
        exact chL_eq hF' rfl (.inl hf)
      simp [hF', er]
      exact ⟨f, iL found.reverse, _, rfl, hf, by rw [get_set_self (lt_of_get hF'), iL, List.map_reverse], nrf_iL _, rfl, ⟨_, rfl⟩, by rw [take_set hf, hkp]⟩
    have s1 : (1 : Nat) ≤ sizeLine := by decide
    have r300 : R62 (NN : Int) := r62 (by omega)
    simp only [W_seq]
    by_cases hne : ns = []
    · subst hne
      simp [fListS, s1, sz 0, r300]
      refine W_imp (loop (h.length + 1) (h.length + 2) _ ⟨[7], [], 12345, by omega, by omega, by omega, by decide, by decide, by simp, by simp, rfl, rfl, ?_, ?_, ?_⟩) (fun r ⟨s, H', e, i⟩ => by rw [e]; exact fin s H' _ _ i)
      · simp [iL]
      · simp [iL]
      · simp
    · have nz : ¬ ((ns.length : Int) = 0) := by
        have := List.length_pos_iff.mpr hne
        omega
      simp [fListS, s1, sz 0, r300, nz, hne]
      refine W_imp (loop h.length (h.length + 1) _ ⟨ns, [], 12345, by omega, by omega, by omega, by decide, by decide, hne, by omega, rfl, rfl, ?_, ?_, ?_⟩) (fun r ⟨s, H', e, i⟩ => by rw [e]; exact fin s H' _ _ i)
      · simp [iL]
      · simp [iL]
      · simp
  obtain ⟨o, h1, ⟨⟨ds, rfl⟩, hk⟩, e⟩ := main
  exact ⟨ds, by rw [e, hk]⟩
end K73
set_option Elab.async false
set_option linter.all false
set_option maxRecDepth 100000
set_option maxHeartbeats 1000000
/-! the law's sameness. -/
namespace K73
open PySem PySem.Spec L2 Z
@[simp] theorem tyD_bl {h : Own} {i : Bool} : tyD h (.bl i) = some "bool" := rfl
@[simp] theorem tyD_lst {h : Own} {i : List Z.D} : tyD h (.lst i) = some "list" := rfl
@[simp] theorem isN_bl {b : Bool} : isN (.bl b) = false := rfl
@[simp] theorem isN_lst {z : List Z.D} : isN (.lst z) = false := rfl
@[simp] theorem isN_non : isN .non = true := rfl
theorem all_true (n : Nat) (h : Own) : fAll [.lst ((List.replicate n (Z.D.bl true)))] h = .ok (.v (.bl true)) h := by
  have := fAll_bls (List.replicate n true) h
  rw [List.map_replicate] at this
  rw [this]
  simp
theorem same_pl : ∀ (k : Nat) (d : Z.D), pln k d = true → ∀ h, callB (B__law_same k) [d, d] h = .ok (.v (.bl true)) h
  | 0, _, e, _ => by cases e
  | k + 1, d, e, h => by
    refine call_v rfl ?_
    show W (body 3 (S__law_same (B__law_same k)) _ _ _) _
    unfold body S__law_same
    simp only [W_seq]
    cases d with
    | non => simp; exact ⟨_, rfl, by simp⟩
    | bl b =>
      have k1 : kitB "bool" "bool" = some true := rfl
      simp [k1, fEq_bb]
      exact ⟨_, rfl, by simp⟩
    | int i =>
      have k1 : kitB "int" "bool" = some false := rfl
      have k2 : kitB "int" "int" = some true := rfl
      simp [k1, k2]
      exact ⟨_, rfl, by simp⟩
    | str z =>
      have k1 : kitB "str" "bool" = some false := rfl
      have k2 : kitB "str" "int" = some false := rfl
      have k3 : kitB "str" "str" = some true := rfl
      simp [k1, k2, k3, fEq_ss (show PyData.strOk z = true from e)]
      exact ⟨_, rfl, by simp⟩
    | tup ds =>
      have e' : (decide (ds.length ≤ 100000) && ds.all (pln k)) = true := e
      rw [Bool.and_eq_true, decide_eq_true_eq, List.all_eq_true] at e'
      obtain ⟨hl, hk⟩ := e'
      have k1 : kitB "tuple" "bool" = some false := rfl
      have k2 : kitB "tuple" "int" = some false := rfl
      have k3 : kitB "tuple" "str" = some false := rfl
      have k4 : kitB "tuple" "dict" = some false := rfl
      have k5 : kitB "tuple" "tuple" = some true := rfl
      have k6 : kitB "tuple" "list" = some false := rfl
      simp [k1, k2, k3, k4, k5, k6, fNe_bb, r62 (show ds.length ≤ 1000000 by omega)]
      rw [comp_range (fun _ => true) (fun _ => .bl true) ds.length]
      · have c := all_true ds.length h
        have e3 : (((List.range ds.length).filter fun _ => true).map fun _ => Z.D.bl true) = List.replicate ds.length (Z.D.bl true) := by rw [List.filter_eq_self.mpr (fun _ _ => rfl), List.map_const', List.length_range]
        rw [e3]
        simp [c]
        exact ⟨_, rfl, by simp⟩
      · intro j hj
        have ix : fIx (.tup ds) (.int (j : Int)) h = .ok (.v ds[j]) h := fIx_q (ds := ds) rfl rfl (List.getElem?_eq_getElem hj)
        have c := same_pl k ds[j] (hk _ (List.getElem_mem hj)) h
        generalize ds[j] = y at *
        refine ⟨_, rfl, by simp, fun _ => ?_⟩
        simp [ix, c]
      · exact sz _ (by omega)
    | lst ds =>
      have e' : (decide (ds.length ≤ 100000) && ds.all (pln k)) = true := e
      rw [Bool.and_eq_true, decide_eq_true_eq, List.all_eq_true] at e'
      obtain ⟨hl, hk⟩ := e'
      have k1 : kitB "list" "bool" = some false := rfl
      have k2 : kitB "list" "int" = some false := rfl
      have k3 : kitB "list" "str" = some false := rfl
      have k4 : kitB "list" "dict" = some false := rfl
      have k5 : kitB "list" "tuple" = some false := rfl
      have k6 : kitB "list" "list" = some true := rfl
      simp [k1, k2, k3, k4, k5, k6, fNe_bb, r62 (show ds.length ≤ 1000000 by omega)]
      rw [comp_range (fun _ => true) (fun _ => .bl true) ds.length]
      · have c := all_true ds.length h
        have e3 : (((List.range ds.length).filter fun _ => true).map fun _ => Z.D.bl true) = List.replicate ds.length (Z.D.bl true) := by rw [List.filter_eq_self.mpr (fun _ _ => rfl), List.map_const', List.length_range]
        rw [e3]
        simp [c]
        exact ⟨_, rfl, by simp⟩
      · intro j hj
        have ix : fIx (.lst ds) (.int (j : Int)) h = .ok (.v ds[j]) h := fIx_q (ds := ds) rfl rfl (List.getElem?_eq_getElem hj)
        have c := same_pl k ds[j] (hk _ (List.getElem_mem hj)) h
        generalize ds[j] = y at *
        refine ⟨_, rfl, by simp, fun _ => ?_⟩
        simp [ix, c]
      · exact sz _ (by omega)
    | _ => cases e
end K73
set_option Elab.async false
set_option linter.all false
set_option maxRecDepth 100000
set_option maxHeartbeats 1000000
/-! systems: what they are, possible, moved. -/
namespace K73
open PySem PySem.Spec L2 Z
abbrev Mv := Nat × Nat × Nat
abbrev Dd := Nat × List Mv
structure Sy where
  sizes : List Nat
  starts : List Nat
  deeds : List Dd
abbrev mvD (m : Mv) : Z.D := .tup [nD m.1, nD m.2.1, nD m.2.2]
abbrev ddD (d : Dd) : Z.D := .tup [nD d.1, .tup (d.2.map mvD)]
def toldD (S : Sy) : Z.D := .tup [wD S.sizes, wD S.starts, .tup (S.deeds.map ddD)]
def sysD (S : Sy) : Z.D := .obj 0 [wD S.sizes, wD S.starts, .tup (S.deeds.map ddD)]
/-- the item at a place -/
def a0 (w : List Nat) (i : Nat) : Nat := w.getD i 0
theorem a0_of {w : List Nat} {i : Nat} (hi : i < w.length) : a0 w i = w[i] := by
  unfold a0
  rw [List.getD_eq_getElem?_getD, List.getElem?_eq_getElem hi]
  rfl
/-- a combination -/
structure Cmb (sizes st : List Nat) : Prop where
  len : st.length = sizes.length
  lt : ∀ i, i < sizes.length → a0 st i < a0 sizes i
structure DdOk (sizes : List Nat) (d : Dd) : Prop where
  lab : d.1 < 4
  ne : d.2 ≠ []
  asc : (d.2.map (·.1)).Pairwise (· < ·)
  mv : ∀ m ∈ d.2, m.1 < sizes.length ∧ m.2.1 < a0 sizes m.1 ∧ m.2.2 < a0 sizes m.1
  few : d.2.length ≤ 2
structure SyOk (S : Sy) : Prop where
  n1 : 1 ≤ S.sizes.length
  n4 : S.sizes.length ≤ 4
  sz : ∀ x ∈ S.sizes, 1 ≤ x ∧ x ≤ 4
  st : Cmb S.sizes S.starts
  dl : S.deeds.length ≤ 10
  dd : ∀ d ∈ S.deeds, DdOk S.sizes d
def en (st : List Nat) (d : Dd) : Bool := d.2.all fun m => decide (a0 st m.1 = m.2.1)
def dAt (S : Sy) (k : Nat) : Dd := S.deeds.getD k (0, [])
/-- the possible actions -/
def ps (S : Sy) (st : List Nat) : List Nat := (List.range S.deeds.length).filter fun k => en st (dAt S k)
/-- the combination behind an action -/
def mvd (S : Sy) (st : List Nat) (k : Nat) : List Nat := (dAt S k).2.foldl (fun r m => r.set m.1 m.2.2) st
theorem dAt_of {S : Sy} {k : Nat} (hk : k < S.deeds.length) : dAt S k = S.deeds[k] := by
  unfold dAt
  rw [List.getD_eq_getElem?_getD, List.getElem?_eq_getElem hk]
  rfl
theorem SyOk.at {S : Sy} (O : SyOk S) {k : Nat} (hk : k < S.deeds.length) : DdOk S.sizes (dAt S k) := by
  rw [dAt_of hk]
  exact O.dd _ (List.getElem_mem hk)
@[simp] theorem nrf_sysD (S : Sy) : nrf (sysD S) = true := by
  have h1 : ∀ ms : List Mv, nrfs (ms.map mvD) = true := fun ms => by
    rw [nrfs_all, List.all_eq_true]
    intro d hd
    obtain ⟨m, _, rfl⟩ := List.mem_map.mp hd
    rfl
  have h2 : nrfs (S.deeds.map ddD) = true := by
    rw [nrfs_all, List.all_eq_true]
    intro d hd
    obtain ⟨m, _, rfl⟩ := List.mem_map.mp hd
    simp [nrf, nrfs, h1]
  simp [sysD, nrf, nrfs, h2]
theorem ix_st {st : List Nat} {i : Nat} (h : Own) (hi : i < st.length) : fIx (wD st) (nD i) h = .ok (.v (nD (a0 st i))) h :=
  ix_w h (by rw [a0_of hi, List.getElem?_eq_getElem hi])
theorem en_comp {st : List Nat} {ms : List Mv} {b : Nat} {s : Sl} {h : Own} (hs : s[1]? = some (some (wD st))) (hl : s.length = 8) (hm : ∀ m ∈ ms, m.1 < st.length) (hms : ms.length ≤ 1000) :
    compGo none (tTup (tCons (tN 6) (tCons (tN 7) (tCons (tN 4) tNil)))) bYes (ed (e2 fEq (ed (e2 fIx (eVar 1) (eVar 6))) (eVar 7))) b s (ms.map mvD) h [] = .ok (.n (.lst (ms.map fun m => Z.D.bl (decide (a0 st m.1 = m.2.1))))) h := by
  rw [comp_pure mvD (fun _ => true) (fun m => Z.D.bl (decide (a0 st m.1 = m.2.1))) (by simp) ms []]
  · rw [List.filter_eq_self.mpr (fun _ _ => rfl)]
    rfl
  · intro m hmm
    refine ⟨_, rfl, by simp, fun _ => ?_⟩
    have i1 := ix_st h (hm m hmm)
    have e1 : (((s.set 6 (some (nD m.1))).set 7 (some (nD m.2.1))).set 4 (some (nD m.2.2)))[1]? = some (some (wD st)) := by rw [List.getElem?_set_ne (by decide), List.getElem?_set_ne (by decide), List.getElem?_set_ne (by decide), hs]
    have e6 : (((s.set 6 (some (nD m.1))).set 7 (some (nD m.2.1))).set 4 (some (nD m.2.2)))[6]? = some (some (nD m.1)) := by rw [List.getElem?_set_ne (by decide), List.getElem?_set_ne (by decide), List.getElem?_set_self (by omega)]
    have e7 : (((s.set 6 (some (nD m.1))).set 7 (some (nD m.2.1))).set 4 (some (nD m.2.2)))[7]? = some (some (nD m.2.1)) := by rw [List.getElem?_set_ne (by decide), List.getElem?_set_self (by simp; omega)]
    generalize a0 st m.1 = x at *
    simp only [ed_eq, e2_eq, eVar_eq, e1, e6, e7, Res.bind_ok, i1, fEq_ii]
    congr 2
    rw [decide_eq_decide]
    omega
  · exact sz _ (by simp; omega)
inductive PsI (S : Sy) (st : List Nat) (h : Own) (k : Nat) (s : Sl) (H : Own) : Prop
  | mk (hs : s = [some (sysD S), some (wD st), some (.ref h.length), none, none, none, none, none]) (hH : H = h ++ [.lst (((List.range k).filter fun k => en st (dAt S k)).map nD)])
theorem possible_eq {S : Sy} {st : List Nat} (O : SyOk S) (C : Cmb S.sizes st) (h : Own) : callB B_possible [sysD S, wD st] h = .ok (.n (.lst ((ps S st).map nD))) h := by
  refine call_r (by rw [nrfO, nrf_nDs]) rfl ?_
  unfold B_possible body S_possible
  have dl := O.dl
  simp [sysD, sz 0, enD_map]
  refine W_list (fun p : Dd × Nat => Z.D.tup [nD p.2, ddD p.1]) S.deeds.zipIdx (PsI S st h) ⟨by simp [sysD], by simp⟩ (fun _ _ _ _ _ => by simp) ?_ ?_
  · rintro k s H hk ⟨rfl, rfl⟩
    have hk' : k < S.deeds.length := by simpa using hk
    have e : S.deeds.zipIdx[k] = (dAt S k, k) := by simp [dAt_of hk']
    rw [e]
    have D := O.at hk'
    have few := D.few
    refine ⟨_, _, rfl, ?_⟩
    have cE := fun (s' : Sl) (H' : Own) (hs : s'[1]? = some (some (wD st))) (hl : s'.length = 8) => en_comp (b := h.length) (h := H') hs hl (fun m hm => by rw [C.len]; exact (D.mv m hm).1) (show (dAt S k).2.length ≤ 1000 by omega)
    have fa := fAll_bls ((dAt S k).2.map fun m => decide (a0 st m.1 = m.2.1))
    simp only [List.map_map] at fa
    have fa' : ∀ H', fAll [.lst ((dAt S k).2.map fun m => Z.D.bl (decide (a0 st m.1 = m.2.1)))] H' = .ok (.v (.bl (en st (dAt S k)))) H' := fun H' => by
      have := fa H'
      rw [show (Z.D.bl ∘ fun m : Mv => decide (a0 st m.1 = m.2.1)) = fun m : Mv => Z.D.bl (decide (a0 st m.1 = m.2.1)) from rfl] at this
      rw [this]
      unfold en
      rw [List.all_map]
      rfl
    have hlen : ((List.range k).filter fun k => en st (dAt S k)).length < sizeLine := szl (Nat.le_trans (List.length_filter_le _ _) (by simp; omega))
    have step := range_filter_succ (fun k => en st (dAt S k)) k
    cases q : en st (dAt S k) with
    | true =>
      rw [q] at fa'
      simp only [q, if_true] at step
      simp [sysD, cE, fa', hlen]
      exact ⟨by simp [sysD], by rw [step]; simp⟩
    | false =>
      rw [q] at fa'
      simp only [q] at step
      simp [sysD, cE, fa', hlen]
      exact ⟨by simp [sysD], by rw [step]; simp⟩
  · rintro s H ⟨rfl, rfl⟩
    simp
    exact ⟨_, _, rfl, by simp, by simp [ps], by simp⟩
end K73
set_option Elab.async false
set_option linter.all false
set_option maxRecDepth 100000
set_option maxHeartbeats 1000000
/-! moved; the law's possible and moved. -/
namespace K73
open PySem PySem.Spec L2 Z
theorem mv_loop {v0 v1 v2 : Option Z.D} {h : Own} {n : Nat} (ms : List Mv) (st : List Nat) (hn : n = st.length) (hm : ∀ m ∈ ms, m.1 < n) :
    forGo none (tTup (tCons (tN 4) (tCons (tN 5) (tCons (tN 6) tNil)))) (sPut (eVar 3) (eVar 4) (eVar 6)) [4, 5, 6] h.length (ms.map mvD) [v0, v1, v2, some (.ref h.length), none, none, none] (h ++ [.lst (st.map nD)])
      = .next [v0, v1, v2, some (.ref h.length), none, none, none] (h ++ [.lst ((ms.foldl (fun r m => r.set m.1 m.2.2) st).map nD)]) := by
  refine (for_fold mvD (fun _ : List Nat => [v0, v1, v2, some (.ref h.length), none, none, none]) (fun r => h ++ [.lst (r.map nD)]) (fun (r : List Nat) (m : Mv) => r.set m.1 m.2.2) (fun r => r.length = n) ms st ?_ hn.symm).2
  intro m hmm r hr
  refine ⟨by simpa using hr, _, [v0, v1, v2, some (.ref h.length), some (nD m.1), some (nD m.2.1), some (nD m.2.2)], rfl, ?_, rfl⟩
  have hp : fPut h.length (.ref h.length) (nD m.1) (nD m.2.2) (h ++ [O.lst (r.map nD)]) = some ((h ++ [O.lst (r.map nD)]).set h.length (.lst ((r.map nD).set m.1 (nD m.2.2)))) :=
    fPut_lst (Nat.le_refl _) (by rw [List.length_map, hr]; exact hm m hmm) (by simp)
  simp [hp]
theorem fList_w {w : List Nat} {h : Own} : fList [wD w] h = .ok (.n (.lst (w.map nD))) h := rfl
theorem moved_eq {S : Sy} {st : List Nat} (O : SyOk S) (C : Cmb S.sizes st) {k : Nat} (hk : k < S.deeds.length) (h : Own) : callB B_moved [sysD S, wD st, nD k] h = .ok (.v (wD (mvd S st k))) h := by
  refine call_v (nrf_wD _) ?_
  unfold B_moved body S_moved
  have ie : fIx (.tup (S.deeds.map ddD)) (nD k) (h ++ [.lst (st.map nD)]) = .ok (.v (ddD (dAt S k))) (h ++ [.lst (st.map nD)]) := fIx_q (ds := S.deeds.map ddD) rfl rfl (by rw [List.getElem?_map, List.getElem?_eq_getElem hk, dAt_of hk]; rfl)
  have i1 : fIx (ddD (dAt S k)) (.int 1) (h ++ [.lst (st.map nD)]) = .ok (.v (.tup ((dAt S k).2.map mvD))) (h ++ [.lst (st.map nD)]) := fIx_q (k := 1) rfl rfl rfl
  have D := O.at hk
  have lp := mv_loop (v0 := some (sysD S)) (v1 := some (wD st)) (v2 := some (nD k)) (h := h) (dAt S k).2 st rfl (fun m hm => by rw [C.len]; exact (D.mv m hm).1)
  simp [sysD] at lp ⊢
  simp [sysD, ie, i1, lp]
  exact ⟨_, rfl, by simp⟩
theorem law_moved_eq {S : Sy} {st : List Nat} (O : SyOk S) (C : Cmb S.sizes st) {k : Nat} (hk : k < S.deeds.length) (h : Own) : callB B__law_moved [toldD S, wD st, nD k] h = .ok (.v (wD (mvd S st k))) h := by
  refine call_v (nrf_wD _) ?_
  unfold B__law_moved body S__law_moved
  have i0 : fIx (toldD S) (.int 2) (h ++ [.lst (st.map nD)]) = .ok (.v (.tup (S.deeds.map ddD))) (h ++ [.lst (st.map nD)]) := fIx_q (k := 2) rfl rfl rfl
  have ie : fIx (.tup (S.deeds.map ddD)) (nD k) (h ++ [.lst (st.map nD)]) = .ok (.v (ddD (dAt S k))) (h ++ [.lst (st.map nD)]) := fIx_q (ds := S.deeds.map ddD) rfl rfl (by rw [List.getElem?_map, List.getElem?_eq_getElem hk, dAt_of hk]; rfl)
  have i1 : fIx (ddD (dAt S k)) (.int 1) (h ++ [.lst (st.map nD)]) = .ok (.v (.tup ((dAt S k).2.map mvD))) (h ++ [.lst (st.map nD)]) := fIx_q (k := 1) rfl rfl rfl
  have D := O.at hk
  have lp := mv_loop (v0 := some (toldD S)) (v1 := some (wD st)) (v2 := some (nD k)) (h := h) (dAt S k).2 st rfl (fun m hm => by rw [C.len]; exact (D.mv m hm).1)
  simp [i0, ie, i1, lp]
  exact ⟨_, rfl, by simp⟩
/-! the law's possible -/
theorem ne_comp {st : List Nat} {ms : List Mv} {b : Nat} {s : Sl} {h : Own} (hs : s[1]? = some (some (wD st))) (hl : s.length = 8) (hm : ∀ m ∈ ms, m.1 < st.length) (hms : ms.length ≤ 1000) :
    compGo none (tTup (tCons (tN 5) (tCons (tN 6) (tCons (tN 7) tNil)))) (eTB (e2 fNe (ed (e2 fIx (eVar 1) (eVar 5))) (eVar 6))) (eC (.int 1)) b s (ms.map mvD) h [] = .ok (.n (.lst ((ms.filter fun m => !decide (a0 st m.1 = m.2.1)).map fun _ => Z.D.int 1))) h := by
  rw [comp_pure mvD (fun m => !decide (a0 st m.1 = m.2.1)) (fun _ => Z.D.int 1) (by simp) ms []]
  · rfl
  · intro m hmm
    refine ⟨_, rfl, ?_, fun _ => by simp⟩
    have i1 := ix_st h (hm m hmm)
    have e1 : (((s.set 5 (some (nD m.1))).set 6 (some (nD m.2.1))).set 7 (some (nD m.2.2)))[1]? = some (some (wD st)) := by rw [List.getElem?_set_ne (by decide), List.getElem?_set_ne (by decide), List.getElem?_set_ne (by decide), hs]
    have e6 : (((s.set 5 (some (nD m.1))).set 6 (some (nD m.2.1))).set 7 (some (nD m.2.2)))[5]? = some (some (nD m.1)) := by rw [List.getElem?_set_ne (by decide), List.getElem?_set_ne (by decide), List.getElem?_set_self (by omega)]
    have e7 : (((s.set 5 (some (nD m.1))).set 6 (some (nD m.2.1))).set 7 (some (nD m.2.2)))[6]? = some (some (nD m.2.1)) := by rw [List.getElem?_set_ne (by decide), List.getElem?_set_self (by simp; omega)]
    generalize a0 st m.1 = x at *
    simp only [eTB_eq, ed_eq, e2_eq, eVar_eq, e1, e6, e7, Res.bind_ok, i1, fNe_ii]
    congr 2
    rw [decide_eq_decide]
    omega
  · exact sz _ (by simp; omega)
inductive LpI (S : Sy) (st : List Nat) (h : Own) (k : Nat) (s : Sl) (H : Own) : Prop
  | mk (hs : s = [some (toldD S), some (wD st), some (.ref h.length), none, none, none, none, none]) (hH : H = h ++ [.lst (((List.range k).filter fun k => en st (dAt S k)).map nD)])
theorem law_possible_eq {S : Sy} {st : List Nat} (O : SyOk S) (C : Cmb S.sizes st) (h : Own) : callB B__law_possible [toldD S, wD st] h = .ok (.n (.lst ((ps S st).map nD))) h := by
  refine call_r (by rw [nrfO, nrf_nDs]) rfl ?_
  unfold B__law_possible body S__law_possible
  have dl := O.dl
  have i0 : ∀ H, fIx (toldD S) (.int 2) H = .ok (.v (.tup (S.deeds.map ddD))) H := fun H => fIx_q (k := 2) rfl rfl rfl
  simp [sz 0, i0, r62 (show S.deeds.length ≤ 1000000 by omega)]
  refine W_range _ (LpI S st h) ⟨rfl, by simp⟩ ?_ ?_
  · rintro k s H hk' ⟨rfl, rfl⟩
    have D := O.at hk'
    have few := D.few
    refine ⟨_, _, rfl, ?_⟩
    have ie : ∀ H, fIx (.tup (S.deeds.map ddD)) (nD k) H = .ok (.v (ddD (dAt S k))) H := fun H => fIx_q (ds := S.deeds.map ddD) rfl rfl (by rw [List.getElem?_map, List.getElem?_eq_getElem hk', dAt_of hk']; rfl)
    have i1 : ∀ H, fIx (ddD (dAt S k)) (.int 1) H = .ok (.v (.tup ((dAt S k).2.map mvD))) H := fun H => fIx_q (k := 1) rfl rfl rfl
    have cE := fun (s' : Sl) (H' : Own) (hs : s'[1]? = some (some (wD st))) (hl : s'.length = 8) => ne_comp (b := h.length) (h := H') hs hl (fun m hm => by rw [C.len]; exact (D.mv m hm).1) (show (dAt S k).2.length ≤ 1000 by omega)
    have hlen : ((List.range k).filter fun k => en st (dAt S k)).length < sizeLine := szl (Nat.le_trans (List.length_filter_le _ _) (by simp; omega))
    have step := range_filter_succ (fun k => en st (dAt S k)) k
    have cz : decide (((((dAt S k).2.filter fun m => !decide (a0 st m.1 = m.2.1)).length : Nat) : Int) = 0) = en st (dAt S k) := by
      unfold en
      rw [Bool.eq_iff_iff, decide_eq_true_iff, List.all_eq_true]
      constructor
      · intro z m hm
        have z' : ((dAt S k).2.filter fun m => !decide (a0 st m.1 = m.2.1)) = [] := List.length_eq_zero_iff.mp (by omega)
        have := List.filter_eq_nil_iff.mp z' m hm
        simpa using this
      · intro z
        have : ((dAt S k).2.filter fun m => !decide (a0 st m.1 = m.2.1)) = [] := List.filter_eq_nil_iff.mpr fun m hm => by simpa using z m hm
        rw [this]
        rfl
    generalize ((dAt S k).2.filter fun m => !decide (a0 st m.1 = m.2.1)) = fl at *
    simp only [W_seq]
    cases q : en st (dAt S k) with
    | true =>
      rw [q] at cz
      simp only [q, if_true] at step
      have cz' := of_decide_eq_true cz
      obtain rfl : fl = [] := List.length_eq_zero_iff.mp (by omega)
      simp [i0, ie, i1, cE, hlen, cz']
      exact ⟨rfl, by rw [step]; simp⟩
    | false =>
      rw [q] at cz
      simp only [q] at step
      have cz' := of_decide_eq_false cz
      have cz2 : ¬ fl = [] := fun z => cz' (by rw [z]; rfl)
      simp [i0, ie, i1, cE, hlen, cz2]
      exact ⟨rfl, by rw [step]; simp⟩
  · rintro s H ⟨rfl, rfl⟩
    simp
    exact ⟨_, _, rfl, by simp, by simp [ps], by simp⟩
end K73
set_option Elab.async false
set_option linter.all false
set_option maxRecDepth 100000
/-! combinations that arise: how many there can be. -/
namespace K73
open PySem PySem.Spec L2 Z
/-- the combination at a place -/
def stAt (o : List (List Nat)) (i : Nat) : List Nat := o.getD i []
theorem stAt_of {o : List (List Nat)} {i : Nat} (hi : i < o.length) : stAt o i = o[i] := by
  unfold stAt
  rw [List.getD_eq_getElem?_getD, List.getElem?_eq_getElem hi]
  rfl
def addN (o : List (List Nat)) (a : List Nat) : List (List Nat) := if o.contains a then o else o ++ [a]
def expd (S : Sy) (o : List (List Nat)) (st : List Nat) : List (List Nat) := (ps S st).foldl (fun o k => addN o (mvd S st k)) o
def arF (S : Sy) : Nat → List (List Nat) → Nat → List (List Nat)
  | 0, o, _ => o
  | f + 1, o, at_ => if at_ < o.length then arF S f (expd S o (stAt o at_)) (at_ + 1) else o
def ar (S : Sy) : List (List Nat) := arF S 300 [S.starts] 0
/-- all of a size are no more than .. -/
theorem pigeon {α : Type} [DecidableEq α] : ∀ (l D : List α), l.Nodup → (∀ x ∈ l, x ∈ D) → l.length ≤ D.length
  | [], D, _, _ => Nat.zero_le _
  | x :: l, D, nd, h => by
    obtain ⟨h1, h2⟩ := List.nodup_cons.mp nd
    have hx := h x List.mem_cons_self
    have := pigeon l (D.erase x) h2 fun y hy => by
      have hne : y ≠ x := by rintro rfl; exact h1 hy
      exact (List.mem_erase_of_ne hne).mpr (h y (List.mem_cons_of_mem _ hy))
    rw [List.length_erase_of_mem hx] at this
    have hp : 0 < D.length := List.length_pos_of_mem hx
    rw [List.length_cons]
    omega
/-- all combinations of n places, each below 4 -/
def allC : Nat → List (List Nat)
  | 0 => [[]]
  | n + 1 => (List.range 4).flatMap fun x => (allC n).map (x :: ·)
theorem mem_allC : ∀ (n : Nat) (w : List Nat), w.length = n → (∀ x ∈ w, x < 4) → w ∈ allC n
  | 0, [], _, _ => by simp [allC]
  | n + 1, x :: w, hl, h => by
    rw [allC, List.mem_flatMap]
    refine ⟨x, List.mem_range.mpr (h x List.mem_cons_self), List.mem_map.mpr ⟨w, mem_allC n w (by simpa using hl) (fun y hy => h y (List.mem_cons_of_mem _ hy)), rfl⟩⟩
  | 0, x :: w, hl, _ => by simp at hl
  | n + 1, [], hl, _ => by simp at hl
theorem allC_len : ∀ n, n ≤ 4 → (allC n).length ≤ 256
  | 0, _ => by decide
  | 1, _ => by decide
  | 2, _ => by decide
  | 3, _ => by decide
  | 4, _ => by decide +kernel
  | n + 5, h => by omega
theorem Cmb.lt4 {S : Sy} (O : SyOk S) {st : List Nat} (C : Cmb S.sizes st) : ∀ x ∈ st, x < 4 := fun x hx => by
  obtain ⟨i, hi, rfl⟩ := List.getElem_of_mem hx
  have h1 := C.lt i (by rw [← C.len]; exact hi)
  rw [a0_of hi] at h1
  have hi' : i < S.sizes.length := by rw [← C.len]; exact hi
  rw [a0_of hi'] at h1
  have := (O.sz _ (List.getElem_mem hi')).2
  omega
theorem few_cmb {S : Sy} (O : SyOk S) {o : List (List Nat)} (nd : o.Nodup) (hc : ∀ st ∈ o, Cmb S.sizes st) : o.length ≤ 256 :=
  Nat.le_trans (pigeon o (allC S.sizes.length) nd fun st h => mem_allC _ _ (hc st h).len ((hc st h).lt4 O)) (allC_len _ O.n4)
theorem Cmb.set {sizes st : List Nat} (C : Cmb sizes st) {p x : Nat} (hx : p < sizes.length → x < a0 sizes p) : Cmb sizes (st.set p x) := by
  refine ⟨by simpa using C.len, fun i hi => ?_⟩
  by_cases h : p = i
  · subst h
    have : a0 (st.set p x) p = x := by
      unfold a0
      rw [List.getD_eq_getElem?_getD, List.getElem?_set_self (by rw [C.len]; exact hi)]
      rfl
    rw [this]
    exact hx hi
  · have : a0 (st.set p x) i = a0 st i := by
      unfold a0
      rw [List.getD_eq_getElem?_getD, List.getD_eq_getElem?_getD, List.getElem?_set_ne h]
    rw [this]
    exact C.lt i hi
theorem Cmb.moved {S : Sy} (O : SyOk S) {st : List Nat} (C : Cmb S.sizes st) {k : Nat} (hk : k < S.deeds.length) : Cmb S.sizes (mvd S st k) := by
  unfold mvd
  have D := O.at hk
  have : ∀ (ms : List Mv) (st : List Nat), (∀ m ∈ ms, m.2.2 < a0 S.sizes m.1) → Cmb S.sizes st → Cmb S.sizes (ms.foldl (fun r m => r.set m.1 m.2.2) st) := by
    intro ms
    induction ms with
    | nil => intro st _ C; exact C
    | cons m ms ih => intro st h C; exact ih _ (fun y hy => h y (List.mem_cons_of_mem _ hy)) (C.set fun _ => h m List.mem_cons_self)
  exact this _ _ (fun m hm => (D.mv m hm).2.2) C
theorem ps_lt {S : Sy} {st : List Nat} {k : Nat} (h : k ∈ ps S st) : k < S.deeds.length := List.mem_range.mp (List.mem_filter.mp h).1
structure OrdOk (S : Sy) (o : List (List Nat)) : Prop where
  nd : o.Nodup
  cm : ∀ st ∈ o, Cmb S.sizes st
theorem OrdOk.add {S : Sy} {o : List (List Nat)} (h : OrdOk S o) {a : List Nat} (C : Cmb S.sizes a) : OrdOk S (addN o a) := by
  unfold addN
  split
  · exact h
  · rename_i hn
    refine ⟨?_, fun st hst => ?_⟩
    · rw [List.nodup_append]
      refine ⟨h.nd, by simp, fun x hx y hy => ?_⟩
      rw [List.mem_singleton] at hy
      subst hy
      rintro rfl
      exact hn (by simpa using hx)
    · rcases List.mem_append.mp hst with z | z
      · exact h.cm st z
      · rw [List.mem_singleton.mp z]; exact C
theorem addN_len (o : List (List Nat)) (a : List Nat) : o.length ≤ (addN o a).length := by
  unfold addN
  split <;> simp
theorem fold_ok {S : Sy} (O : SyOk S) {st : List Nat} (C : Cmb S.sizes st) : ∀ (ks : List Nat) (o : List (List Nat)), (∀ k ∈ ks, k < S.deeds.length) → OrdOk S o → OrdOk S (ks.foldl (fun o k => addN o (mvd S st k)) o) ∧ o.length ≤ (ks.foldl (fun o k => addN o (mvd S st k)) o).length
  | [], o, _, h => ⟨h, Nat.le_refl _⟩
  | k :: ks, o, hk, h => by
    obtain ⟨h1, h2⟩ := fold_ok O C ks (addN o (mvd S st k)) (fun y hy => hk y (List.mem_cons_of_mem _ hy)) (h.add (C.moved O (hk k List.mem_cons_self)))
    exact ⟨h1, Nat.le_trans (addN_len _ _) h2⟩
theorem arF_ok {S : Sy} (O : SyOk S) : ∀ (f : Nat) (o : List (List Nat)) (i : Nat), OrdOk S o → OrdOk S (arF S f o i)
  | 0, o, i, h => h
  | f + 1, o, i, h => by
    unfold arF
    split
    · rename_i hi
      refine arF_ok O f _ _ (fold_ok O ?_ _ _ (fun k hk => ps_lt hk) h).1
      rw [stAt_of hi]
      exact h.cm _ (List.getElem_mem hi)
    · exact h
theorem start_ok {S : Sy} (O : SyOk S) : OrdOk S [S.starts] := ⟨by simp, fun st h => by rw [List.mem_singleton.mp h]; exact O.st⟩
theorem ar_ok {S : Sy} (O : SyOk S) : OrdOk S (ar S) := arF_ok O _ _ _ (start_ok O)
theorem arF_pos {S : Sy} : ∀ (f : Nat) (o : List (List Nat)) (i : Nat), o ≠ [] → arF S f o i ≠ []
  | 0, o, i, h => h
  | f + 1, o, i, h => by
    unfold arF
    split
    · refine arF_pos f _ _ ?_
      unfold expd
      have : ∀ (ks : List Nat) (o : List (List Nat)) (st : List Nat), o ≠ [] → ks.foldl (fun o k => addN o (mvd S st k)) o ≠ [] := by
        intro ks
        induction ks with
        | nil => intro o st h; exact h
        | cons k ks ih =>
          intro o st h
          refine ih _ st fun z => ?_
          have := addN_len o (mvd S st k)
          rw [show addN o (mvd S st k) = [] from z] at this
          exact h (List.length_eq_zero_iff.mp (by simpa using this))
      exact this _ _ _ h
    · exact h
theorem ar_pos {S : Sy} : 0 < (ar S).length := List.length_pos_iff.mpr (arF_pos _ _ _ (by simp))
end K73
set_option Elab.async false
set_option linter.all false
set_option maxRecDepth 100000
set_option maxHeartbeats 1000000
/-! arising, the program's and the law's. -/
namespace K73
open PySem PySem.Spec L2 Z
def kI (st : List Nat) : List Key := st.map fun n : Nat => (Sum.inl (n : Int) : Key)
theorem kI_inj : ∀ {a b : List Nat}, kI a = kI b → a = b
  | [], [], _ => rfl
  | [], _ :: _, h => by cases h
  | _ :: _, [], h => by cases h
  | x :: a, y :: b, h => by
    simp only [kI, List.map_cons, List.cons.injEq] at h
    have h1 : (x : Int) = y := Sum.inl.inj h.1
    rw [show x = y by omega, kI_inj (a := a) (b := b) h.2]
def sdD (o : List (List Nat)) : List (List Key × Z.D) := o.map fun st => (kI st, Z.D.bl true)
theorem asKs_wD (w : List Nat) : asKs (wD w) = some (kI w) := by
  show (w.map nD).mapM asK = _
  induction w with
  | nil => rfl
  | cons a w ih =>
    rw [List.map_cons, List.mapM_cons, ih]
    rfl
theorem getD_sd (o : List (List Nat)) (a : List Nat) : getD (sdD o) (kI a) = if o.contains a then some (.bl true) else none := by
  induction o with
  | nil => rfl
  | cons g o ih =>
    unfold getD sdD at ih ⊢
    rw [List.map_cons, List.find?_cons]
    by_cases h : g = a
    · subst h
      simp
    · have h1 : ¬ kI g = kI a := fun z => h (kI_inj z)
      have h2 : ¬ a = g := fun z => h z.symm
      simp only [h1, decide_false]
      rw [ih]
      simp [h2]
theorem putD_sd {o : List (List Nat)} {a : List Nat} (h : o.contains a = false) : putD (sdD o) (kI a) (.bl true) = sdD (o ++ [a]) := by
  unfold putD
  have : ((sdD o).any fun p => decide (p.1 = kI a)) = false := by
    rw [Bool.eq_false_iff]
    intro z
    rw [List.any_eq_true] at z
    obtain ⟨p, hp, e⟩ := z
    obtain ⟨st, hst, rfl⟩ := List.mem_map.mp hp
    have := kI_inj (of_decide_eq_true e)
    subst this
    have : o.contains st = true := by simpa using hst
    rw [h] at this
    cases this
  rw [this]
  simp [sdD]
theorem notIn_sd {H : Own} {n : Nat} {o : List (List Nat)} {a : List Nat} (e : H[n]? = some (.dT (sdD o))) : fNotIn (wD a) (.ref n) H = .ok (.v (.bl (!o.contains a))) H := by
  have h1 : fInQ true (wD a) (.ref n) H = .stuck := by
    unfold fInQ asQ asL
    simp [e]
  have h2 : fInK true (wD a) (.ref n) H = .ok (.v (.bl (!o.contains a))) H := by
    unfold fInK askD asD
    have g := getD_sd o a
    simp only [e, asKs_wD, Option.map_some, g]
    cases o.contains a <;> rfl
  show (match fInQ true (wD a) (.ref n) H with | .stuck => _ | z => z) = _
  rw [h1]
  dsimp only
  show (match fInK true (wD a) (.ref n) H with | .stuck => _ | z => z) = _
  rw [h2]
theorem put_sd {H : Own} {b n : Nat} {o : List (List Nat)} {a : List Nat} (hb : b ≤ n) (hl : o.length ≤ 1000) (ha : o.contains a = false) (e : H[n]? = some (.dT (sdD o))) : fPut b (.ref n) (wD a) (.bl true) H = some (H.set n (.dT (sdD (o ++ [a])))) := by
  unfold fPut
  simp only [e, asKs_wD]
  have hk : (sdD o).length < sizeLine := by unfold sdD; rw [List.length_map]; exact szl (by omega)
  rw [if_pos hk, putO_own hb, putD_sd ha]
theorem any_w (o : List (List Nat)) (a : List Nat) : ((o.map fun w : List Nat => PyData.tuple (w.map fun n : Nat => PyData.int (n : Int))).any fun z => PyData.eqv z (.tuple (a.map fun n : Nat => PyData.int (n : Int)))) = o.contains a := by
  induction o with
  | nil => rfl
  | cons g o ih =>
    rw [List.map_cons, List.any_cons, ih, PyData.eqv, eqvAll_nats, List.contains_cons]
    congr 1
    rw [Bool.eq_iff_iff]
    simp
    exact ⟨fun h => h.symm, fun h => h.symm⟩
theorem toP7_wDs : ∀ o : List (List Nat), (o.map wD).mapM (toP 7) = some (o.map fun w : List Nat => PyData.tuple (w.map fun n : Nat => PyData.int (n : Int)))
  | [] => rfl
  | w :: o => by
    rw [List.map_cons, List.mapM_cons, toP7_wDs o]
    have : toP 7 (wD w) = some (.tuple (w.map fun n : Nat => PyData.int (n : Int))) := by
      show ((w.map nD).mapM (toP 6)).map PyData.tuple = _
      rw [toP_nDs]
      rfl
    rw [this]
    rfl
theorem notIn_wl {H : Own} {n : Nat} {o : List (List Nat)} {a : List Nat} (e : H[n]? = some (.lst (o.map wD))) : fNotIn (wD a) (.ref n) H = .ok (.v (.bl (!o.contains a))) H := by
  have h1 : fInQ true (wD a) (.ref n) H = .stuck := by
    unfold fInQ asQ asL
    simp [e, flatD]
  have h2 : fInK true (wD a) (.ref n) H = .stuck := by
    unfold fInK askD asD
    simp [e]
  have h3 : fInD true (wD a) (.ref n) H = .ok (.v (.bl (!o.contains a))) H := by
    unfold fInD
    rw [toPh_wD]
    unfold toPh
    simp only [e, toP7_wDs, Option.map_some, any_w]
    rfl
  show (match fInQ true (wD a) (.ref n) H with | .stuck => _ | z => z) = _
  rw [h1]
  dsimp only
  show (match fInK true (wD a) (.ref n) H with | .stuck => _ | z => z) = _
  rw [h2]
  exact h3
theorem ix_o {o : List (List Nat)} {n i : Nat} {H : Own} (e : H[n]? = some (.lst (o.map wD))) (hi : i < o.length) : fIx (.ref n) (nD i) H = .ok (.v (wD (stAt o i))) H :=
  fIx_q (ds := o.map wD) (by rw [asQ_ref', e]) rfl (by rw [List.getElem?_map, stAt_of hi, List.getElem?_eq_getElem hi]; rfl)
inductive ArJ (S : Sy) (h : Own) (o0 : List (List Nat)) (i : Nat) (k : Nat) (s : Sl) (H : Own) : Prop
  | mk (o : List (List Nat)) (y5 : Option Z.D) (ok : OrdOk S o) (hl : o0.length ≤ o.length) (ho : stAt o0 i = stAt o i) (e : o = ((ps S (stAt o0 i)).take k).foldl (fun o k => addN o (mvd S (stAt o0 i) k)) o0)
    (hs : s = [some (sysD S), some (.ref h.length), some (.ref (h.length + 1)), some (nD i), none, none]) (hH : H = h ++ [.lst (o.map wD), .dT (sdD o)])
theorem addN_get {o : List (List Nat)} {a : List Nat} {i : Nat} (hi : i < o.length) : stAt (addN o a) i = stAt o i := by
  unfold addN
  split
  · rfl
  · unfold stAt
    rw [List.getD_eq_getElem?_getD, List.getD_eq_getElem?_getD, List.getElem?_append_left hi]
theorem ar_turn {S : Sy} (O : SyOk S) {h : Own} {o0 : List (List Nat)} {i : Nat} (hi : i < o0.length) (ok0 : OrdOk S o0) (Q : SRes → Prop)
    (hq : Q (.next [some (sysD S), some (.ref h.length), some (.ref (h.length + 1)), some (nD i), none, none] (h ++ [.lst ((expd S o0 (stAt o0 i)).map wD), .dT (sdD (expd S o0 (stAt o0 i)))]))) :
    W (forGo none (tN 4) (sSeq (sSet 5 (ed (eCall 3 B_moved (aCons (eVar 0) (aCons (ed (e2 fIx (eVar 1) (eVar 3))) (aCons (eVar 4) aNil))))))
  (sIf (eTB (e2 fNotIn (eVar 5) (eVar 2))) (sSeq (sPut (eVar 2) (eVar 5) (eC (.bl true)))
  (sX (ed (eM "list" fAppend (eVar 1) (aCons (eVar 5) aNil))))) sPass)) [4, 5] h.length ((ps S (stAt o0 i)).map nD) [some (sysD S), some (.ref h.length), some (.ref (h.length + 1)), some (nD i), none, none] (h ++ [.lst (o0.map wD), .dT (sdD o0)])) Q := by
  have hc : Cmb S.sizes (stAt o0 i) := by
    rw [stAt_of hi]
    exact ok0.cm _ (List.getElem_mem hi)
  refine W_list nD (ps S (stAt o0 i)) (ArJ S h o0 i) ⟨o0, none, ok0, Nat.le_refl _, rfl, by simp, rfl, rfl⟩ (fun _ _ _ _ _ => by simp) ?_ ?_
  · rintro k s H hk ⟨o, y5, ok, hl, ho, e, rfl, rfl⟩
    refine ⟨_, _, rfl, ?_⟩
    have ha : (ps S (stAt o0 i))[k] < S.deeds.length := ps_lt (List.getElem_mem hk)
    have e1 : (ps S (stAt o0 i)).take (k + 1) = (ps S (stAt o0 i)).take k ++ [(ps S (stAt o0 i))[k]] := by rw [List.take_succ_eq_append_getElem hk]
    generalize (ps S (stAt o0 i))[k] = a at *
    have hi2 : i < o.length := by omega
    have ix := ix_o (o := o) (n := h.length) (i := i) (H := h ++ [.lst (o.map wD), .dT (sdD o)]) (by simp) hi2
    have cm := moved_eq O hc ha (h ++ [.lst (o.map wD), .dT (sdD o)])
    rw [← ho] at ix
    have few := few_cmb O ok.nd ok.cm
    have cmb := hc.moved O ha
    have efold : ((ps S (stAt o0 i)).take (k + 1)).foldl (fun o k => addN o (mvd S (stAt o0 i) k)) o0 = addN o (mvd S (stAt o0 i) a) := by rw [e1, List.foldl_append, ← e]; rfl
    generalize mvd S (stAt o0 i) a = x at *
    have ni := notIn_sd (H := h ++ [.lst (o.map wD), .dT (sdD o)]) (n := h.length + 1) (o := o) (a := x) (by simp)
    have next : addN o x = addN o x := rfl
    simp only [W_seq]
    cases q : o.contains x with
    | true =>
      rw [q] at ni
      simp [ix, cm, ni]
      exact ⟨o, none, ok, hl, ho, by rw [efold]; unfold addN; rw [q]; rfl, rfl, rfl⟩
    | false =>
      rw [q] at ni
      have pt := put_sd (b := h.length) (H := h ++ [.lst (o.map wD), .dT (sdD o)]) (n := h.length + 1) (o := o) (a := x) (by omega) (by omega) q (by simp)
      have hlen : o.length < sizeLine := szl (by omega)
      have ea : addN o x = o ++ [x] := by unfold addN; rw [q]; rfl
      simp [ix, cm, ni, pt, hlen]
      exact ⟨o ++ [x], none, ea ▸ ok.add cmb, by simp; omega, by rw [ho, ← ea, addN_get hi2], by rw [efold, ea], rfl, by simp⟩
  · rintro s H ⟨o, y5, ok, hl, ho, e, rfl, rfl⟩
    rw [List.take_length] at e
    have : o = expd S o0 (stAt o0 i) := e
    rw [this]
    exact hq
inductive ArI (S : Sy) (h : Own) (M : Nat) (s : Sl) (H : Own) : Prop
  | mk (o : List (List Nat)) (i : Nat) (hM : M + i = 299) (ok : OrdOk S o) (hi : i ≤ o.length) (e : arF S (M + 1) o i = ar S)
    (hs : s = [some (sysD S), some (.ref h.length), some (.ref (h.length + 1)), some (nD i), none, none]) (hH : H = h ++ [.lst (o.map wD), .dT (sdD o)])
theorem arising_eq {S : Sy} (O : SyOk S) (h : Own) : callB B_arising [sysD S] h = .ok (.n (.lst ((ar S).map wD))) h := by
  refine call_r (by rw [nrfO, nrf_wDs]) rfl ?_
  unfold B_arising body S_arising
  have s1 : (1 : Nat) ≤ sizeLine := by decide
  simp only [W_seq]
  simp [sysD, s1, asKs_wD]
  refine W_wh (ArI S h) ?_ 1000000000 299 _ _ (by decide) ⟨[S.starts], 0, rfl, start_ok O, Nat.zero_le _, rfl, by simp [sysD], by simp [sdD]⟩
  rintro M s H ⟨o, i, hM, ok, hi, e, rfl, rfl⟩
  have few := few_cmb O ok.nd ok.cm
  refine ⟨decide (i < o.length), h ++ [Z.O.lst (o.map wD), Z.O.dT (sdD o)], ?_, fun hf => ?_, fun ht => ?_⟩
  · simp
  · have hf := of_decide_eq_false hf
    have eo : arF S (M + 1) o i = o := by unfold arF; rw [if_neg hf]
    rw [eo] at e
    simp
    exact ⟨_, _, rfl, by simp, by rw [e]; simp, by simp⟩
  · have ht := of_decide_eq_true ht
    refine ⟨M - 1, by omega, ?_⟩
    have hc : Cmb S.sizes (stAt o i) := by
      rw [stAt_of ht]
      exact ok.cm _ (List.getElem_mem ht)
    have ix := ix_o (o := o) (n := h.length) (i := i) (H := h ++ [.lst (o.map wD), .dT (sdD o)]) (by simp) ht
    have cp := possible_eq O hc (h ++ [.lst (o.map wD), .dT (sdD o)])
    have hgen : ∀ w, stAt o i = w → True := fun _ _ => trivial
    simp only [W_seq]
    simp only [sFor_eq, sE_eq, iSeq_eq, ed_eq, eCall_eq, aCons_eq, aNil_eq, eVar_eq, List.getElem?_cons_zero, List.getElem?_cons_succ, Res.bind_ok, e2_eq, ix, List.length_cons, List.length_nil, if_true, cp, frzO_lst, Nat.reduceAdd, W_seq]
    refine ar_turn O ht ok _ ?_
    simp
    have eo : arF S (M + 1) o i = arF S M (expd S o (stAt o i)) (i + 1) := by
      rw [arF, if_pos ht]
    obtain ⟨k1, k2⟩ := fold_ok O hc (ps S (stAt o i)) o (fun k hk => ps_lt hk) ok
    have hM1 : M - 1 + 1 = M := by omega
    refine ⟨M - 1, by omega, expd S o (stAt o i), i + 1, by omega, k1, ?_, by rw [hM1, ← e, eo], by simp, by simp⟩
    have : o.length ≤ (expd S o (stAt o i)).length := k2
    omega
end K73
set_option Elab.async false
set_option linter.all false
set_option maxRecDepth 100000
set_option maxHeartbeats 1000000
/-! the law's arising; stuck. -/
namespace K73
open PySem PySem.Spec L2 Z
@[simp] theorem sPar_eq {i j : Nat} {xs : EA} {τ : Fm} {h : Own} : sPar i j xs τ h = sE xs (fun ds τ h => match ds with
  | [x, y] => .next ((τ.s.set i (some x)).set j (some y)) h
  | _ => .stuck) τ h := by
  unfold sPar
  rfl
inductive LaJ (S : Sy) (h : Own) (o0 : List (List Nat)) (i : Nat) (k : Nat) (s : Sl) (H : Own) : Prop
  | mk (o : List (List Nat)) (ok : OrdOk S o) (hl : o0.length ≤ o.length) (ho : stAt o0 i = stAt o i) (e : o = ((ps S (stAt o0 i)).take k).foldl (fun o k => addN o (mvd S (stAt o0 i) k)) o0)
    (hs : s = [some (toldD S), some (nD 700), some (.ref h.length), some (nD i), none, none]) (hH : H = h ++ [.lst (o.map wD)])
theorem la_turn {S : Sy} (O : SyOk S) {h : Own} {o0 : List (List Nat)} {i : Nat} (hi : i < o0.length) (ok0 : OrdOk S o0) (Q : SRes → Prop)
    (hq : Q (.next [some (toldD S), some (nD 700), some (.ref h.length), some (nD i), none, none] (h ++ [.lst ((expd S o0 (stAt o0 i)).map wD)]))) :
    W (forGo none (tN 4) (sSeq (sSet 5 (ed (eCall 3 B__law_moved (aCons (eVar 0) (aCons (ed (e2 fIx (eVar 2) (eVar 3))) (aCons (eVar 4) aNil))))))
  (sIf (eTB (e2 fNotIn (eVar 5) (eVar 2))) (sX (ed (eM "list" fAppend (eVar 2) (aCons (eVar 5) aNil)))) sPass)) [4, 5] h.length ((ps S (stAt o0 i)).map nD) [some (toldD S), some (nD 700), some (.ref h.length), some (nD i), none, none] (h ++ [.lst (o0.map wD)])) Q := by
  have hc : Cmb S.sizes (stAt o0 i) := by
    rw [stAt_of hi]
    exact ok0.cm _ (List.getElem_mem hi)
  refine W_list nD (ps S (stAt o0 i)) (LaJ S h o0 i) ⟨o0, ok0, Nat.le_refl _, rfl, by simp, rfl, rfl⟩ (fun _ _ _ _ _ => by simp) ?_ ?_
  · rintro k s H hk ⟨o, ok, hl, ho, e, rfl, rfl⟩
    refine ⟨_, _, rfl, ?_⟩
    have ha : (ps S (stAt o0 i))[k] < S.deeds.length := ps_lt (List.getElem_mem hk)
    have e1 : (ps S (stAt o0 i)).take (k + 1) = (ps S (stAt o0 i)).take k ++ [(ps S (stAt o0 i))[k]] := by rw [List.take_succ_eq_append_getElem hk]
    generalize (ps S (stAt o0 i))[k] = a at *
    have hi2 : i < o.length := by omega
    have ix := ix_o (o := o) (n := h.length) (i := i) (H := h ++ [.lst (o.map wD)]) (by simp) hi2
    have cm := law_moved_eq O hc ha (h ++ [.lst (o.map wD)])
    rw [← ho] at ix
    have few := few_cmb O ok.nd ok.cm
    have cmb := hc.moved O ha
    have efold : ((ps S (stAt o0 i)).take (k + 1)).foldl (fun o k => addN o (mvd S (stAt o0 i) k)) o0 = addN o (mvd S (stAt o0 i) a) := by rw [e1, List.foldl_append, ← e]; rfl
    generalize mvd S (stAt o0 i) a = x at *
    have ni := notIn_wl (H := h ++ [.lst (o.map wD)]) (n := h.length) (o := o) (a := x) (by simp)
    simp only [W_seq]
    cases q : o.contains x with
    | true =>
      rw [q] at ni
      simp [ix, cm, ni]
      exact ⟨o, ok, hl, ho, by rw [efold]; unfold addN; rw [q]; rfl, rfl, rfl⟩
    | false =>
      rw [q] at ni
      have hlen : o.length < sizeLine := szl (by omega)
      have ea : addN o x = o ++ [x] := by unfold addN; rw [q]; rfl
      simp [ix, cm, ni, hlen]
      exact ⟨o ++ [x], ea ▸ ok.add cmb, by simp; omega, by rw [ho, ← ea, addN_get hi2], by rw [efold, ea], rfl, by simp⟩
  · rintro s H ⟨o, ok, hl, ho, e, rfl, rfl⟩
    rw [List.take_length] at e
    have : o = expd S o0 (stAt o0 i) := e
    rw [this]
    exact hq
inductive LaI (S : Sy) (h : Own) (M : Nat) (s : Sl) (H : Own) : Prop
  | mk (o : List (List Nat)) (i : Nat) (hM : M + i = 299) (ok : OrdOk S o) (hi : i ≤ o.length) (e : arF S (M + 1) o i = ar S)
    (hs : s = [some (toldD S), some (nD 700), some (.ref h.length), some (nD i), none, none]) (hH : H = h ++ [.lst (o.map wD)])
theorem law_arising_eq {S : Sy} (O : SyOk S) (h : Own) : callB B__law_arising [toldD S, nD 700] h = .ok (.n (.lst ((ar S).map wD))) h := by
  refine call_r (by rw [nrfO, nrf_wDs]) rfl ?_
  unfold B__law_arising body S__law_arising
  have s1 : (1 : Nat) ≤ sizeLine := by decide
  have i0 : ∀ H, fIx (toldD S) (.int 1) H = .ok (.v (wD S.starts)) H := fun H => fIx_q (k := 1) rfl rfl rfl
  simp only [W_seq]
  simp [s1, i0]
  refine W_wh (LaI S h) ?_ 1000000000 299 _ _ (by decide) ⟨[S.starts], 0, rfl, start_ok O, Nat.zero_le _, rfl, by simp, by simp⟩
  rintro M s H ⟨o, i, hM, ok, hi, e, rfl, rfl⟩
  have few := few_cmb O ok.nd ok.cm
  have few2 : (o.length : Int) ≤ 700 := by omega
  refine ⟨decide (i < o.length), h ++ [Z.O.lst (o.map wD)], ?_, fun hf => ?_, fun ht => ?_⟩
  · by_cases z : i < o.length
    · simp [z, few2]
    · simp [z]
  · have hf := of_decide_eq_false hf
    have eo : arF S (M + 1) o i = o := by unfold arF; rw [if_neg hf]
    rw [eo] at e
    simp
    exact ⟨_, _, rfl, by simp, by rw [e]; simp, by simp⟩
  · have ht := of_decide_eq_true ht
    refine ⟨M - 1, by omega, ?_⟩
    have hc : Cmb S.sizes (stAt o i) := by
      rw [stAt_of ht]
      exact ok.cm _ (List.getElem_mem ht)
    have ix := ix_o (o := o) (n := h.length) (i := i) (H := h ++ [.lst (o.map wD)]) (by simp) ht
    have cp := law_possible_eq O hc (h ++ [.lst (o.map wD)])
    simp only [W_seq]
    simp only [sFor_eq, sE_eq, iSeq_eq, ed_eq, eCall_eq, aCons_eq, aNil_eq, eVar_eq, List.getElem?_cons_zero, List.getElem?_cons_succ, Res.bind_ok, e2_eq, ix, List.length_cons, List.length_nil, if_true, cp, frzO_lst, Nat.reduceAdd, W_seq]
    refine la_turn O ht ok _ ?_
    simp
    have eo : arF S (M + 1) o i = arF S M (expd S o (stAt o i)) (i + 1) := by
      rw [arF, if_pos ht]
    obtain ⟨k1, k2⟩ := fold_ok O hc (ps S (stAt o i)) o (fun k hk => ps_lt hk) ok
    have hM1 : M - 1 + 1 = M := by omega
    refine ⟨M - 1, by omega, expd S o (stAt o i), i + 1, by omega, k1, ?_, by rw [hM1, ← e, eo], by simp, by simp⟩
    have : o.length ≤ (expd S o (stAt o i)).length := k2
    omega
/-- the stuck ones -/
def stk (S : Sy) : List (List Nat) := (ar S).filter fun st => (ps S st).isEmpty
theorem stuck_eq {S : Sy} (O : SyOk S) (h : Own) : callB B_stuck [sysD S] h = .ok (.n (.lst ((stk S).map wD))) h := by
  refine call_n (by rw [nrfO, nrf_wDs]) ?_
  unfold B_stuck body S_stuck
  have ok := ar_ok O
  have few := few_cmb O ok.nd ok.cm
  simp [arising_eq O h]
  rw [comp_pure wD (fun st => (ps S st).isEmpty) wD (by simp) (ar S) []]
  · simp [stk]
    exact ⟨_, rfl, by simp⟩
  · intro st hst
    have cp := possible_eq O (ok.cm st hst) h
    refine ⟨_, rfl, ?_, fun _ => by simp⟩
    simp [cp]
  · exact sz _ (by simp; omega)
end K73
set_option Elab.async false
set_option linter.all false
set_option maxRecDepth 100000
set_option maxHeartbeats 1000000
/-! runs. -/
namespace K73
open PySem PySem.Spec L2 Z
abbrev rD (run : List Int) : Z.D := .tup (run.map .int)
def inP (w : List Nat) (a : Int) : Bool := w.any fun n : Nat => decide ((n : Int) = a)
theorem anyI (w : List Nat) (a : Int) : ((w.map nD).any fun z => eqD z (.int a)) = inP w a := by
  unfold inP
  rw [List.any_map]
  rfl
theorem notIn_i (w : List Nat) (a : Int) (h : Own) : fNotIn (.int a) (.lst (w.map nD)) h = .ok (.v (.bl (!inP w a))) h := by
  rw [fNotIn_q (ds := w.map nD) rfl rfl (flat_nDs w), anyI]
theorem inP_iff {w : List Nat} {a : Int} : inP w a = true ↔ ∃ n : Nat, n ∈ w ∧ a = (n : Int) := by
  unfold inP
  rw [List.any_eq_true]
  constructor
  · rintro ⟨n, h1, h2⟩
    exact ⟨n, h1, (of_decide_eq_true h2).symm⟩
  · rintro ⟨n, h1, rfl⟩
    exact ⟨n, h1, by simp⟩
/-- the combination behind a run -/
def bh (S : Sy) (st : List Nat) : List Int → Option (List Nat)
  | [] => some st
  | a :: r => if inP (ps S st) a = true then bh S (mvd S st a.toNat) r else none
inductive SbI (S : Sy) (v0 : Z.D) (h : Own) (run : List Int) (k : Nat) (s : Sl) (H : Own) : Prop
  | mk (st : List Nat) (C : Cmb S.sizes st) (e : bh S st (run.drop k) = bh S S.starts run) (hs : s = [some v0, some (rD run), some (wD st), none]) (hH : H = h)
def bhD : Option (List Nat) → Z.D
  | some st => wD st
  | none => .non
@[simp] theorem nrf_bhD (o : Option (List Nat)) : nrf (bhD o) = true := by cases o <;> simp [bhD]; rfl
theorem states_behind_eq {S : Sy} (O : SyOk S) {run : List Int} (h : Own) : callB B_states_behind [sysD S, rD run] h = .ok (.v (bhD (bh S S.starts run))) h := by
  refine call_v (nrf_bhD _) ?_
  unfold B_states_behind body S_states_behind
  simp [sysD]
  refine W_list Z.D.int run (SbI S (sysD S) h run) ⟨S.starts, O.st, rfl, by simp [sysD], rfl⟩ (fun _ _ _ _ _ => by simp) ?_ ?_
  · rintro k s H hk ⟨st, C, e, rfl, rfl⟩
    refine ⟨_, _, rfl, ?_⟩
    rw [List.drop_eq_getElem_cons hk] at e
    generalize run[k] = a at *
    have cp := possible_eq O C H
    have ni := notIn_i (ps S st) a H
    simp only [W_seq]
    cases q : inP (ps S st) a with
    | false =>
      rw [q] at ni
      simp [bh, q] at e
      simp [cp, ni]
      exact ⟨H, by rw [← e]; rfl, by simp⟩
    | true =>
      rw [q] at ni
      simp [bh, q] at e
      obtain ⟨n, hn, rfl⟩ := inP_iff.mp q
      have cm := moved_eq O C (ps_lt hn) H
      simp [cp, ni, cm]
      exact ⟨_, C.moved O (ps_lt hn), by simpa using e, rfl, rfl⟩
  · rintro s H ⟨st, C, e, rfl, rfl⟩
    rw [List.drop_length] at e
    have e' : bh S S.starts run = some st := e.symm
    simp
    exact ⟨H, by rw [e']; rfl, by simp⟩
theorem is_run_eq {S : Sy} (O : SyOk S) {run : List Int} (h : Own) : callB B_is_run [sysD S, rD run] h = .ok (.v (.bl (bh S S.starts run).isSome)) h := by
  refine call_v rfl ?_
  unfold B_is_run body S_is_run
  simp [states_behind_eq O h]
  cases bh S S.starts run <;> exact ⟨_, rfl, by simp⟩
theorem law_is_run_eq {S : Sy} (O : SyOk S) {run : List Int} (h : Own) : callB B__law_is_run [toldD S, rD run] h = .ok (.v (.bl (bh S S.starts run).isSome)) h := by
  refine call_v rfl ?_
  unfold B__law_is_run body S__law_is_run
  have i0 : ∀ H, fIx (toldD S) (.int 1) H = .ok (.v (wD S.starts)) H := fun H => fIx_q (k := 1) rfl rfl rfl
  simp [i0]
  refine W_list Z.D.int run (SbI S (toldD S) h run) ⟨S.starts, O.st, rfl, rfl, rfl⟩ (fun _ _ _ _ _ => by simp) ?_ ?_
  · rintro k s H hk ⟨st, C, e, rfl, rfl⟩
    refine ⟨_, _, rfl, ?_⟩
    rw [List.drop_eq_getElem_cons hk] at e
    generalize run[k] = a at *
    have cp := law_possible_eq O C H
    have ni := notIn_i (ps S st) a H
    simp only [W_seq]
    cases q : inP (ps S st) a with
    | false =>
      rw [q] at ni
      simp [bh, q] at e
      simp [cp, ni]
      exact ⟨H, by rw [← e]; rfl, by simp⟩
    | true =>
      rw [q] at ni
      simp [bh, q] at e
      obtain ⟨n, hn, rfl⟩ := inP_iff.mp q
      have cm := law_moved_eq O C (ps_lt hn) H
      simp [cp, ni, cm]
      exact ⟨_, C.moved O (ps_lt hn), by simpa using e, rfl, rfl⟩
  · rintro s H ⟨st, C, e, rfl, rfl⟩
    rw [List.drop_length] at e
    have e' : bh S S.starts run = some st := e.symm
    simp
    exact ⟨H, by rw [e']; rfl, by simp⟩
/-! ### apart -/
def plc (S : Sy) (a : Nat) : List Nat := (dAt S a).2.map (·.1)
def apt (S : Sy) (a b : Nat) : Bool := !((plc S a).any fun p => has (plc S b) p)
theorem places_of_eq {S : Sy} (O : SyOk S) {a : Nat} (ha : a < S.deeds.length) (h : Own) : callB B_places_of [sysD S, nD a] h = .ok (.n (.lst ((plc S a).map nD))) h := by
  refine call_n (by rw [nrfO, nrf_nDs]) ?_
  unfold B_places_of body S_places_of
  have few := (O.at ha).few
  have ie : fIx (.tup (S.deeds.map ddD)) (nD a) h = .ok (.v (ddD (dAt S a))) h := fIx_q (ds := S.deeds.map ddD) rfl rfl (by rw [List.getElem?_map, List.getElem?_eq_getElem ha, dAt_of ha]; rfl)
  have i1 : fIx (ddD (dAt S a)) (.int 1) h = .ok (.v (.tup ((dAt S a).2.map mvD))) h := fIx_q (k := 1) rfl rfl rfl
  simp [sysD, ie, i1]
  rw [comp_pure mvD (fun _ => true) (fun m => nD m.1) (by simp) (dAt S a).2 []]
  · rw [List.filter_eq_self.mpr (fun _ _ => rfl)]
    simp [plc]
    exact ⟨_, rfl, by simp⟩
  · intro m _
    refine ⟨_, rfl, by simp, fun _ => by simp⟩
  · exact sz _ (by simp; omega)
theorem law_places_eq {S : Sy} (O : SyOk S) {a : Nat} (ha : a < S.deeds.length) (h : Own) : callB B__law_places [toldD S, nD a] h = .ok (.n (.lst ((plc S a).map nD))) h := by
  refine call_n (by rw [nrfO, nrf_nDs]) ?_
  unfold B__law_places body S__law_places
  have few := (O.at ha).few
  have i0 : fIx (toldD S) (.int 2) h = .ok (.v (.tup (S.deeds.map ddD))) h := fIx_q (k := 2) rfl rfl rfl
  have ie : fIx (.tup (S.deeds.map ddD)) (nD a) h = .ok (.v (ddD (dAt S a))) h := fIx_q (ds := S.deeds.map ddD) rfl rfl (by rw [List.getElem?_map, List.getElem?_eq_getElem ha, dAt_of ha]; rfl)
  have i1 : fIx (ddD (dAt S a)) (.int 1) h = .ok (.v (.tup ((dAt S a).2.map mvD))) h := fIx_q (k := 1) rfl rfl rfl
  simp [i0, ie, i1]
  rw [comp_pure mvD (fun _ => true) (fun m => nD m.1) (by simp) (dAt S a).2 []]
  · rw [List.filter_eq_self.mpr (fun _ _ => rfl)]
    simp [plc]
    exact ⟨_, rfl, by simp⟩
  · intro m _
    have i0 : fIx (mvD m) (.int 0) h = .ok (.v (nD m.1)) h := fIx_q (k := 0) rfl rfl rfl
    refine ⟨_, rfl, by simp, fun _ => by simp [i0]⟩
  · exact sz _ (by simp; omega)
theorem are_apart_eq {S : Sy} (O : SyOk S) {a b : Nat} (ha : a < S.deeds.length) (hb : b < S.deeds.length) (h : Own) : callB B_are_apart [sysD S, nD a, nD b] h = .ok (.v (.bl (apt S a b))) h := by
  refine call_v rfl ?_
  unfold B_are_apart body S_are_apart
  have few := (O.at ha).few
  simp [places_of_eq O ha]
  rw [comp_pure nD (fun _ => true) (fun p => Z.D.bl (has (plc S b) p)) (by simp) (plc S a) []]
  · rw [List.filter_eq_self.mpr (fun _ _ => rfl)]
    have fa := fAny_bls ((plc S a).map fun p => has (plc S b) p) h
    rw [List.map_map] at fa
    have fa' : fAny [.lst ((plc S a).map fun p => Z.D.bl (has (plc S b) p))] h = _ := fa
    have e : (((plc S a).map fun p => has (plc S b) p).any id) = !apt S a b := by
      unfold apt
      rw [List.any_map]
      simp
    rw [e] at fa'
    simp [fa']
    exact ⟨_, rfl, by simp⟩
  · intro p _
    have fi := fIn_q' (d := .lst ((plc S b).map nD)) (w := plc S b) p h rfl
    refine ⟨_, rfl, by simp, fun _ => ?_⟩
    simp [places_of_eq O hb, fi]
  · exact sz _ (by simp [plc]; omega)
theorem law_apart_eq {S : Sy} (O : SyOk S) {a b : Nat} (ha : a < S.deeds.length) (hb : b < S.deeds.length) (h : Own) : callB B__law_apart [toldD S, nD a, nD b] h = .ok (.v (.bl (apt S a b))) h := by
  refine call_v rfl ?_
  unfold B__law_apart body S__law_apart
  have few := (O.at ha).few
  simp [law_places_eq O ha]
  rw [comp_pure nD (fun p => has (plc S b) p) (fun _ => Z.D.int 1) (by simp) (plc S a) []]
  · have cz := len_filter_pos (fun p => has (plc S b) p) (plc S a)
    have e : decide (((((plc S a).filter fun p => has (plc S b) p)).length : Int) = 0) = apt S a b := by
      unfold apt
      rw [← cz, ← decide_not, decide_eq_decide]
      omega
    generalize ((plc S a).filter fun p => has (plc S b) p) = fl at *
    simp only [List.nil_append, Res.bind_ok, frzO_lst, fLen_lst, List.length_map, fEq_ii]
    simp only [e]
    exact ⟨_, rfl, by simp⟩
  · intro p _
    have fi := fIn_q' (d := .lst ((plc S b).map nD)) (w := plc S b) p h rfl
    refine ⟨_, rfl, ?_, fun _ => by simp⟩
    simp [law_places_eq O hb, fi]
  · exact sz _ (by simp [plc]; omega)
end K73
set_option Elab.async false
set_option linter.all false
set_option maxRecDepth 100000
set_option maxHeartbeats 1000000
/-! events below. -/
namespace K73
open PySem PySem.Spec L2 Z
def addK (c : List Nat) (a : Nat) : List Nat := if a ∈ c then c else c ++ [a]
def lowN (S : Sy) (rs : List Nat) (k : Nat) (F : List (List Nat)) (n : Nat) : List Nat :=
  (List.range n).foldl (fun c j => if apt S (a0 rs j) (a0 rs k) = true then c else (stAt F j).foldl addK (addK c j)) []
def srt (cs : List Nat) : List Nat := cs.mergeSort (· ≤ ·)
def fnd (S : Sy) (rs : List Nat) : Nat → List (List Nat)
  | 0 => []
  | k + 1 => fnd S rs k ++ [srt (lowN S rs k (fnd S rs k) k)]
theorem fnd_len {S : Sy} {rs : List Nat} : ∀ k, (fnd S rs k).length = k
  | 0 => rfl
  | k + 1 => by rw [fnd, List.length_append, fnd_len k]; rfl
structure Few (c : List Nat) (k : Nat) : Prop where
  nd : c.Nodup
  lt : ∀ x ∈ c, x < k
theorem Few.add {c : List Nat} {k a : Nat} (h : Few c k) (ha : a < k) : Few (addK c a) k := by
  unfold addK
  split
  · exact h
  · rename_i hn
    refine ⟨?_, fun x hx => ?_⟩
    · rw [List.nodup_append]
      refine ⟨h.nd, by simp, fun x hx y hy => ?_⟩
      rw [List.mem_singleton] at hy
      subst hy
      rintro rfl
      exact hn hx
    · rcases List.mem_append.mp hx with z | z
      · exact h.lt x z
      · rw [List.mem_singleton.mp z]; exact ha
theorem Few.adds {k : Nat} : ∀ {fs c : List Nat}, Few c k → (∀ x ∈ fs, x < k) → Few (fs.foldl addK c) k
  | [], c, h, _ => h
  | a :: fs, c, h, hf => Few.adds (fs := fs) (c := addK c a) (h.add (hf a List.mem_cons_self)) fun x hx => hf x (List.mem_cons_of_mem _ hx)
theorem Few.len {c : List Nat} {k : Nat} (h : Few c k) : c.length ≤ k := by
  have := pigeon c (List.range k) h.nd fun x hx => List.mem_range.mpr (h.lt x hx)
  simpa using this
theorem lowN_succ {S : Sy} {rs : List Nat} {k : Nat} {F : List (List Nat)} {n : Nat} : lowN S rs k F (n + 1) = if apt S (a0 rs n) (a0 rs k) = true then lowN S rs k F n else (stAt F n).foldl addK (addK (lowN S rs k F n) n) := by
  unfold lowN
  rw [List.range_succ, List.foldl_append]
  rfl
structure FF (F : List (List Nat)) (k : Nat) : Prop where
  len : F.length = k
  few : ∀ j, j < k → Few (stAt F j) j
theorem Few.mono {c : List Nat} {k n : Nat} (h : Few c k) (hk : k ≤ n) : Few c n := ⟨h.nd, fun x hx => Nat.lt_of_lt_of_le (h.lt x hx) hk⟩
theorem lowN_few {S : Sy} {rs : List Nat} {k : Nat} {F : List (List Nat)} (hF : FF F k) : ∀ n, n ≤ k → Few (lowN S rs k F n) k
  | 0, _ => ⟨by simp [lowN], fun x hx => by simp [lowN] at hx⟩
  | n + 1, hn => by
    rw [lowN_succ]
    have ih := lowN_few (S := S) (rs := rs) hF n (by omega)
    split
    · exact ih
    · exact (ih.add (by omega)).adds fun x hx => by have := (hF.few n (by omega)).lt x hx; omega
theorem Few.srt {c : List Nat} {k : Nat} (h : Few c k) : Few (srt c) k :=
  ⟨(List.mergeSort_perm _ _).nodup_iff.mpr h.nd, fun x hx => h.lt x ((List.mergeSort_perm _ _).mem_iff.mp hx)⟩
theorem fnd_ok {S : Sy} {rs : List Nat} : ∀ k, FF (fnd S rs k) k
  | 0 => ⟨rfl, fun j hj => by omega⟩
  | k + 1 => by
    have ih := fnd_ok (S := S) (rs := rs) k
    refine ⟨fnd_len _, fun j hj => ?_⟩
    unfold stAt
    rw [fnd, List.getD_eq_getElem?_getD]
    by_cases h : j < k
    · rw [List.getElem?_append_left (by rw [fnd_len]; exact h)]
      have := ih.few j h
      unfold stAt at this
      rw [List.getD_eq_getElem?_getD] at this
      exact this
    · have : j = k := by omega
      subst this
      rw [List.getElem?_append_right (by rw [fnd_len]; exact Nat.le_refl _), fnd_len, Nat.sub_self]
      exact (lowN_few ih _ (Nat.le_refl _)).srt
theorem foldl_addK_self : ∀ (fs c : List Nat), (c ++ fs).Nodup → fs.foldl addK c = c ++ fs
  | [], c, _ => by simp
  | a :: fs, c, h => by
    have hn : a ∉ c := fun z => by
      rw [List.nodup_append] at h
      exact h.2.2 a z a List.mem_cons_self rfl
    rw [List.foldl_cons]
    have : addK c a = c ++ [a] := if_neg hn
    rw [this, foldl_addK_self fs (c ++ [a]) (by simpa using h)]
    simp
theorem addK_len {c : List Nat} {a : Nat} : (addK c a).length ≤ c.length + 1 := by unfold addK; split <;> simp
inductive BwJ (v0 : Z.D) (rs : List Nat) (S : Sy) (h : Own) (F : List (List Nat)) (T k : Nat) (mkS : Option Z.D → Sl) (j : Nat) (s : Sl) (H : Own) : Prop
  | mk (y : Option Z.D) (hs : s = mkS y) (hF : H[h.length]? = some (.lst (F.map wD))) (hT : H[T]? = some (.dK (kd (lowN S rs k F j)))) (hk : H.take h.length = h)
theorem ix_F {F : List (List Nat)} {n j : Nat} {H : Own} (e : H[n]? = some (.lst (F.map wD))) (hj : j < F.length) : fIx (.ref n) (nD j) H = .ok (.v (wD (stAt F j))) H := ix_o e hj
theorem ix_r {rs : List Nat} {j : Nat} (H : Own) (hj : j < rs.length) : fIx (wD rs) (nD j) H = .ok (.v (nD (a0 rs j))) H := ix_st H hj
theorem put_k {H : Own} {b n : Nat} {cs : List Nat} {c : Nat} (hb : b ≤ n) (hl : cs.length ≤ 1000) (e : H[n]? = some (.dK (kd cs))) : fPut b (.ref n) (nD c) (.bl true) H = some (H.set n (.dK (kd (addK cs c)))) := by
  have h1 : asK (nD c) = some (Sum.inl (c : Int)) := rfl
  unfold fPut
  simp only [e, h1]
  have hk : (kd cs).length < sizeLine := by unfold kd; rw [List.length_map]; exact szl (by omega)
  rw [if_pos hk, putO_own hb, putD_kd]
  rfl
/-- the inner turns of below -/
theorem bw_inner {S : Sy} (O : SyOk S) {rs : List Nat} (hr : ∀ a ∈ rs, a < S.deeds.length) {h : Own} {F : List (List Nat)} {T k : Nat} (hk : k < rs.length) (hl : rs.length ≤ 50) (hF : FF F k) (hT : h.length < T) {s2 : Sl} {H2 : Own} (i0 : BwJ (sysD S) rs S h F T k (fun y => [some (sysD S), some (wD rs), some (.ref h.length), some (nD k), some (nD (a0 rs k)), some (.ref T), y, none]) 0 s2 H2) (Q : SRes → Prop)
    (hq : ∀ s H, BwJ (sysD S) rs S h F T k (fun y => [some (sysD S), some (wD rs), some (.ref h.length), some (nD k), some (nD (a0 rs k)), some (.ref T), y, none]) k s H → Q (.next s H)) :
    W (forGo none (tN 6) (sIf (bNot (eT (ed (eCall 3 B_are_apart (aCons (eVar 0) (aCons (ed (e2 fIx (eVar 1) (eVar 6))) (aCons (eVar 4) aNil))))))) (sSeq (sPut (eVar 5) (eVar 6) (eC (.bl true)))
  (sX (ed (eM "dict" fUpd (eVar 5) (aCons (ed (eDC (iSeq (ed (e2 fIx (eVar 2) (eVar 6)))) (tN 7) bYes (eVar 7) (eC (.bl true)) [7])) aNil))))) sPass) [6] h.length (rngD 0 k) s2 H2) Q := by
  refine W_range k (BwJ (sysD S) rs S h F T k (fun y => [some (sysD S), some (wD rs), some (.ref h.length), some (nD k), some (nD (a0 rs k)), some (.ref T), y, none])) i0 ?_ hq
  rintro j s H hj ⟨y, rfl, hF2, hT2, hk2⟩
  refine ⟨_, _, rfl, ?_⟩
  have hjr : j < rs.length := by omega
  have aj : a0 rs j < S.deeds.length := by rw [a0_of hjr]; exact hr _ (List.getElem_mem hjr)
  have ak : a0 rs k < S.deeds.length := by rw [a0_of hk]; exact hr _ (List.getElem_mem hk)
  have ir := ix_r H hjr
  have ca := are_apart_eq O aj ak H
  have ls := lowN_succ (S := S) (rs := rs) (k := k) (F := F) (n := j)
  have fw := lowN_few (S := S) (rs := rs) hF j (by omega)
  have fl := fw.len
  have fj := hF.few j hj
  have fjl := fj.len
  cases q : apt S (a0 rs j) (a0 rs k) with
  | true =>
    rw [q] at ca ls
    simp [ir, ca]
    exact ⟨_, rfl, hF2, by rw [hT2, ls]; rfl, hk2⟩
  | false =>
    rw [q] at ca ls
    have pt := put_k (b := h.length) (c := j) (Nat.le_of_lt hT) (by omega) hT2
    have g1 : (H.set T (.dK (kd (addK (lowN S rs k F j) j))))[h.length]? = some (.lst (F.map wD)) := by rw [get_set_ne (by omega)]; exact hF2
    have g2 : (H.set T (.dK (kd (addK (lowN S rs k F j) j))))[T]? = some (.dK (kd (addK (lowN S rs k F j) j))) := get_set_self (lt_of_get hT2)
    have ixf := ix_F g1 (by rw [hF.len]; exact hj)
    have al := addK_len (c := lowN S rs k F j) (a := j)
    have ls' : lowN S rs k F (j + 1) = (stAt F j).foldl addK (addK (lowN S rs k F j) j) := ls
    have ty : isTy "dict" (H.set T (.dK (kd (addK (lowN S rs k F j) j)))) (.ref T) = true := by rw [isTy_ref, g2]; rfl
    have hk3 : (H.set T (.dK (kd (addK (lowN S rs k F j) j)))).take h.length = h := by rw [take_set (Nat.le_of_lt hT)]; exact hk2
    generalize addK (lowN S rs k F j) j = c at *
    generalize H.set T (.dK (kd c)) = H3 at *
    have dc := dc_kd (g := tN 7) (kx := eVar 7) (b := h.length) (s := [some (sysD S), some (wD rs), some (.ref h.length), some (nD k), some (nD (a0 rs k)), some (.ref T), some (nD j), none]) (h := H3) (stAt F j) [] (fun a _ => ⟨_, rfl, by simp⟩) (by simp; omega)
    have e0 : ((stAt F j).foldl (fun c a => if a ∈ c then c else c ++ [a]) []) = stAt F j := by
      have := foldl_addK_self (stAt F j) [] (by simpa using fj.nd)
      rw [List.nil_append] at this
      exact this
    rw [e0] at dc
    have up := fUpd_eq (b := h.length) (more := kd (stAt F j)) g2 (by unfold kd; simp; omega) (.inl (Nat.le_of_lt hT))
    rw [mergeD_kd] at up
    have dc' : dcGo none (tN 7) bYes (eVar 7) (eC (.bl true)) h.length [some (sysD S), some (wD rs), some (.ref h.length), some (nD k), some (nD (a0 rs k)), some (.ref T), some (nD j), none] ((stAt F j).map nD) H3 [] = .ok (.n (.dK (kd (stAt F j)))) H3 := dc
    simp [ir, ca, pt, ty, ixf, dc', up]
    refine ⟨_, rfl, ?_, ?_, ?_⟩
    · rw [get_set_ne (by omega)]; exact g1
    · rw [get_set_self (lt_of_get g2), ls']; rfl
    · rw [take_set (Nat.le_of_lt hT)]; exact hk3
inductive BwI (v0 : Z.D) (rs : List Nat) (S : Sy) (h : Own) (mkS : Sl) (k : Nat) (s : Sl) (H : Own) : Prop
  | mk (hs : s = mkS) (hF : H[h.length]? = some (.lst ((fnd S rs k).map wD))) (hk : H.take h.length = h)
theorem below_eq {S : Sy} (O : SyOk S) {rs : List Nat} (hr : ∀ a ∈ rs, a < S.deeds.length) (hl : rs.length ≤ 50) (h : Own) : callB B_below [sysD S, wD rs] h = .ok (.n (.lst ((fnd S rs rs.length).map wD))) h := by
  refine call_r (by rw [nrfO, nrf_wDs]) rfl ?_
  unfold B_below body S_below
  simp [sz 0, enD_map]
  refine W_list (fun p : Nat × Nat => Z.D.tup [nD p.2, nD p.1]) rs.zipIdx (BwI (sysD S) rs S h [some (sysD S), some (wD rs), some (.ref h.length), none, none, none, none, none]) ⟨rfl, by simp [fnd], by simp⟩ (fun _ _ _ _ _ => by simp) ?_ ?_
  · rintro k s H hk' ⟨rfl, hF, hkp⟩
    have hk : k < rs.length := by simpa using hk'
    have e : rs.zipIdx[k] = (a0 rs k, k) := by simp [a0_of hk]
    rw [e]
    refine ⟨_, _, rfl, ?_⟩
    have hbl : h.length < H.length := lt_of_get hF
    have r62k : R62 (k : Int) := r62 (by omega)
    simp only [W_seq]
    simp [eNewK]
    simp only [r62k, if_true]
    refine bw_inner O hr (h := h) (F := fnd S rs k) (T := H.length) (k := k) hk hl (fnd_ok k) hbl ⟨none, rfl, ?_, ?_, ?_⟩ _ ?_
    · rw [List.getElem?_append_left hbl]; exact hF
    · simp [lowN, kd]
    · rw [List.take_append_of_le_length (by omega)]; exact hkp
    · rintro s2 H2 ⟨y, rfl, hF2, hT2, hk2⟩
      have fw := lowN_few (S := S) (rs := rs) (F := fnd S rs k) (fnd_ok k) k (Nat.le_refl _)
      have fl := fw.len
      have so := fSorted_kd' fw.nd (by omega) hT2
      have hlen : (fnd S rs k).length < sizeLine := szl (by rw [fnd_len]; omega)
      simp [so, hF2, hlen, putO_own (Nat.le_refl _)]
      refine ⟨rfl, ?_, ?_⟩
      · rw [get_set_self (lt_of_get hF2), fnd]
        simp [srt]
      · rw [take_set (Nat.le_refl _)]; exact hk2
  · rintro s H ⟨rfl, hF, hkp⟩
    simp
    exact ⟨_, _, rfl, Nat.le_refl _, by simpa using hF, hkp⟩
end K73
set_option Elab.async false
set_option linter.all false
set_option maxRecDepth 100000
set_option maxHeartbeats 1000000
/-! the law's events below. -/
namespace K73
open PySem PySem.Spec L2 Z
/-- a dict of marks filled by a walk over a word -/
theorem put_loop {b T : Nat} {s : Sl} {H : Own} (fs : List Nat) (c : List Nat) (h4 : s[4]? = some (some (.ref T))) (hl6 : 6 < s.length) (h6 : s[6]? = some none) (hb : b ≤ T) (hl : c.length + fs.length ≤ 1000) (hT : H[T]? = some (.dK (kd c))) :
    forGo none (tN 6) (sPut (eVar 4) (eVar 6) (eC (.bl true))) [6] b (fs.map nD) s H = .next s (H.set T (.dK (kd (fs.foldl addK c)))) := by
  induction fs generalizing c H with
  | nil =>
    unfold forGo
    simp
    exact (set_self hT).symm
  | cons a fs ih =>
    rw [List.length_cons] at hl
    unfold forGo
    simp only [List.map_cons]
    rw [if_pos (by simp)]
    have pt := put_k (b := b) (c := a) hb (by omega) hT
    have e4 : (s.set 6 (some (nD a)))[4]? = some (some (.ref T)) := by rw [List.getElem?_set_ne (by decide), h4]
    have e6 : (s.set 6 (some (nD a)))[6]? = some (some (nD a)) := List.getElem?_set_self hl6
    have ec : clr [6] (s.set 6 (some (nD a))) = s := by
      show (s.set 6 (some (nD a))).set 6 none = s
      rw [List.set_set]
      apply List.ext_getElem?
      intro i
      rw [List.getElem?_set]
      split
      · rename_i q; subst q; rw [h6]
      · rfl
    have al := addK_len (c := c) (a := a)
    simp only [tN_eq, sPut_eq, sE_eq, eC_eq, eVar_eq, e4, e6, pt, ec]
    rw [ih (addK c a) (H := H.set T (.dK (kd (addK c a)))) (by omega) (get_set_self (lt_of_get hT))]
    rw [List.set_set]
    rfl
theorem ll_inner {S : Sy} (O : SyOk S) {rs : List Nat} (hr : ∀ a ∈ rs, a < S.deeds.length) {h : Own} {F : List (List Nat)} {T k : Nat} (hk : k < rs.length) (hl : rs.length ≤ 50) (hF : FF F k) (hT : h.length < T) {s2 : Sl} {H2 : Own} (i0 : BwJ (toldD S) rs S h F T k (fun _ => [some (toldD S), some (wD rs), some (.ref h.length), some (nD k), some (.ref T), none, none]) 0 s2 H2) (Q : SRes → Prop)
    (hq : ∀ s H, BwJ (toldD S) rs S h F T k (fun _ => [some (toldD S), some (wD rs), some (.ref h.length), some (nD k), some (.ref T), none, none]) k s H → Q (.next s H)) :
    W (forGo none (tN 5) (sIf (bNot (eT (ed (eCall 3 B__law_apart (aCons (eVar 0) (aCons (ed (e2 fIx (eVar 1) (eVar 5))) (aCons (ed (e2 fIx (eVar 1) (eVar 3))) aNil))))))) (sSeq (sPut (eVar 4) (eVar 5) (eC (.bl true)))
  (sFor (iSeq (ed (e2 fIx (eVar 2) (eVar 5)))) (tN 6) (sPut (eVar 4) (eVar 6) (eC (.bl true))) [6])) sPass) [5, 6] h.length (rngD 0 k) s2 H2) Q := by
  refine W_range k (BwJ (toldD S) rs S h F T k (fun _ => [some (toldD S), some (wD rs), some (.ref h.length), some (nD k), some (.ref T), none, none])) i0 ?_ hq
  rintro j s H hj ⟨y, rfl, hF2, hT2, hk2⟩
  refine ⟨_, _, rfl, ?_⟩
  have hjr : j < rs.length := by omega
  have aj : a0 rs j < S.deeds.length := by rw [a0_of hjr]; exact hr _ (List.getElem_mem hjr)
  have ak : a0 rs k < S.deeds.length := by rw [a0_of hk]; exact hr _ (List.getElem_mem hk)
  have ir := ix_r H hjr
  have irk := ix_r H hk
  have ca := law_apart_eq O aj ak H
  have ls := lowN_succ (S := S) (rs := rs) (k := k) (F := F) (n := j)
  have fw := lowN_few (S := S) (rs := rs) hF j (by omega)
  have fl := fw.len
  have fj := hF.few j hj
  have fjl := fj.len
  cases q : apt S (a0 rs j) (a0 rs k) with
  | true =>
    rw [q] at ca ls
    simp [ir, irk, ca]
    exact ⟨y, rfl, hF2, by rw [hT2, ls]; rfl, hk2⟩
  | false =>
    rw [q] at ca ls
    have pt := put_k (b := h.length) (c := j) (Nat.le_of_lt hT) (by omega) hT2
    have g1 : (H.set T (.dK (kd (addK (lowN S rs k F j) j))))[h.length]? = some (.lst (F.map wD)) := by rw [get_set_ne (by omega)]; exact hF2
    have g2 : (H.set T (.dK (kd (addK (lowN S rs k F j) j))))[T]? = some (.dK (kd (addK (lowN S rs k F j) j))) := get_set_self (lt_of_get hT2)
    have ixf := ix_F g1 (by rw [hF.len]; exact hj)
    have al := addK_len (c := lowN S rs k F j) (a := j)
    have ls' : lowN S rs k F (j + 1) = (stAt F j).foldl addK (addK (lowN S rs k F j) j) := ls
    have hk3 : (H.set T (.dK (kd (addK (lowN S rs k F j) j)))).take h.length = h := by rw [take_set (Nat.le_of_lt hT)]; exact hk2
    generalize addK (lowN S rs k F j) j = c at *
    generalize H.set T (.dK (kd c)) = H3 at *
    have lp := put_loop (b := h.length) (T := T) (s := [some (toldD S), some (wD rs), some (.ref h.length), some (nD k), some (.ref T), some (nD j), none]) (H := H3) (stAt F j) c rfl (by simp) rfl (Nat.le_of_lt hT) (by omega) g2
    simp [ir, irk, ca, pt, ixf, lp]
    refine ⟨y, rfl, ?_, ?_, ?_⟩
    · rw [get_set_ne (by omega)]; exact g1
    · rw [get_set_self (lt_of_get g2), ls']
    · rw [take_set (Nat.le_of_lt hT)]; exact hk3
theorem law_lower_eq {S : Sy} (O : SyOk S) {rs : List Nat} (hr : ∀ a ∈ rs, a < S.deeds.length) (hl : rs.length ≤ 50) (h : Own) : callB B__law_lower [toldD S, wD rs] h = .ok (.n (.lst ((fnd S rs rs.length).map wD))) h := by
  refine call_r (by rw [nrfO, nrf_wDs]) rfl ?_
  unfold B__law_lower body S__law_lower
  simp [sz 0, r62 (show rs.length ≤ 1000000 by omega)]
  refine W_range _ (BwI (toldD S) rs S h [some (toldD S), some (wD rs), some (.ref h.length), none, none, none, none]) ⟨rfl, by simp [fnd], by simp⟩ ?_ ?_
  · rintro k s H hk ⟨rfl, hF, hkp⟩
    refine ⟨_, _, rfl, ?_⟩
    have hbl : h.length < H.length := lt_of_get hF
    have r62k : R62 (k : Int) := r62 (by omega)
    simp only [W_seq]
    simp [eNewK]
    simp only [r62k, if_true]
    refine ll_inner O hr (h := h) (F := fnd S rs k) (T := H.length) (k := k) hk hl (fnd_ok k) hbl ⟨none, rfl, ?_, ?_, ?_⟩ _ ?_
    · rw [List.getElem?_append_left hbl]; exact hF
    · simp [lowN, kd]
    · rw [List.take_append_of_le_length (by omega)]; exact hkp
    · rintro s2 H2 ⟨y, rfl, hF2, hT2, hk2⟩
      have fw := lowN_few (S := S) (rs := rs) (F := fnd S rs k) (fnd_ok k) k (Nat.le_refl _)
      have fl := fw.len
      have so := fSorted_kd' fw.nd (by omega) hT2
      have hlen : (fnd S rs k).length < sizeLine := szl (by rw [fnd_len]; omega)
      simp [so, hF2, hlen, putO_own (Nat.le_refl _)]
      refine ⟨rfl, ?_, ?_⟩
      · rw [get_set_self (lt_of_get hF2), fnd]
        simp [srt]
      · rw [take_set (Nat.le_refl _)]; exact hk2
  · rintro s H ⟨rfl, hF, hkp⟩
    simp
    exact ⟨_, _, rfl, Nat.le_refl _, by simpa using hF, hkp⟩
end K73
set_option Elab.async false
set_option linter.all false
set_option maxRecDepth 100000
set_option maxHeartbeats 2000000
/-! which parts are refused. -/
namespace K73
open PySem PySem.Spec L2 Z
abbrev MI := Int × Int × Int
abbrev AI := Int × List MI
abbrev iLd (zs : List Int) : Z.D := .lst (zs.map .int)
abbrev miD (m : MI) : Z.D := .tup [.int m.1, .int m.2.1, .int m.2.2]
abbrev aiD (a : AI) : Z.D := .tup [.int a.1, .lst (a.2.map miD)]
def zAt (zs : List Int) (p : Int) : Int := zs.getD p.toNat 0
def mvB (zs : List Int) (m : MI) : Bool := (decide (0 ≤ m.1) && decide (m.1 < zs.length)) && ((decide (0 ≤ m.2.1) && decide (m.2.1 < zAt zs m.1)) && (decide (0 ≤ m.2.2) && decide (m.2.2 < zAt zs m.1)))
def iaB (zs : List Int) (a : AI) : Bool := (decide (0 ≤ a.1) && decide (a.1 ≤ 5)) && (!a.2.isEmpty && (decide (sset (a.2.map (·.1)) = a.2.map (·.1)) && a.2.all (mvB zs)))
section
variable {a b c : ED} {τ : Fm} {h : Own} {i j k : Int} {x y : Bool}
theorem ch_ll (ha : a τ h = .ok (.int i) h) (hb : b τ h = .ok (.int j) h) (hc : c τ h = .ok (.int k) h) : eCh fLe fLe a b c τ h = .ok (.v (.bl (decide (i ≤ j) && decide (j ≤ k)))) h := by
  simp only [eCh_eq, ha, hb, Res.bind_ok, fLe_ii]
  cases q : decide (i ≤ j) <;> simp [hc]
theorem ch_lt (ha : a τ h = .ok (.int i) h) (hb : b τ h = .ok (.int j) h) (hc : c τ h = .ok (.int k) h) : eCh fLe fLt a b c τ h = .ok (.v (.bl (decide (i ≤ j) && decide (j < k)))) h := by
  simp only [eCh_eq, ha, hb, Res.bind_ok, fLe_ii]
  cases q : decide (i ≤ j) <;> simp [hc]
theorem ch_lt' (ha : a τ h = .ok (.int i) h) (hb : b τ h = .ok (.int j) h) (hc : i ≤ j → c τ h = .ok (.int k) h) : eCh fLe fLt a b c τ h = .ok (.v (.bl (decide (i ≤ j) && decide (j < k)))) h := by
  simp only [eCh_eq, ha, hb, Res.bind_ok, fLe_ii]
  by_cases q : i ≤ j
  · simp [q, hc q]
  · simp [q]
theorem vAnd_b (ha : a τ h = .ok (.bl x) h) (hb : x = true → b τ h = .ok (.bl y) h) : vAnd a b τ h = .ok (.bl (x && y)) h := by
  simp only [vAnd_eq, ha, Res.bind_ok]
  cases x
  · rfl
  · simp [hb rfl]
end
theorem toP_ints (k : Nat) : ∀ w : List Int, (w.map Z.D.int).mapM (toP k) = some (w.map PyData.int)
  | [] => rfl
  | a :: w => by
    rw [List.map_cons, List.mapM_cons, toP_ints k w]
    have : toP k (.int a) = some (.int a) := by cases k <;> rfl
    rw [this]
    rfl
theorem eqvAll_ints : ∀ u v : List Int, PyData.eqvAll (u.map PyData.int) (v.map PyData.int) = decide (u = v)
  | [], [] => by simp [PyData.eqvAll]
  | [], b :: v => by simp [PyData.eqvAll]
  | a :: u, [] => by simp [PyData.eqvAll]
  | a :: u, b :: v => by
    rw [List.map_cons, List.map_cons, PyData.eqvAll, eqvAll_ints u v, PyData.eqv]
    rw [Bool.eq_iff_iff]
    simp
theorem fNe_il (u v : List Int) (h : Own) : fNe (iLd u) (iLd v) h = .ok (.v (.bl (!decide (u = v)))) h := by
  have t : ∀ w : List Int, toPh h (iLd w) = some (.list (w.map PyData.int)) := fun w => by
    show ((w.map Z.D.int).mapM (toP 7)).map PyData.list = _
    rw [toP_ints]
    rfl
  unfold fNe fEqN
  rw [t, t]
  simp [PyData.eqv, eqvAll_ints]
theorem ix_z {zs : List Int} {p : Int} (h : Own) (h0 : 0 ≤ p) (h1 : p < zs.length) : fIx (iLd zs) (.int p) h = .ok (.v (.int (zAt zs p))) h := by
  have hk : p.toNat < zs.length := by omega
  refine fIx_q (ds := zs.map .int) (k := p.toNat) rfl (by omega) ?_
  rw [List.getElem?_map, List.getElem?_eq_getElem hk]
  unfold zAt
  rw [List.getD_eq_getElem?_getD, List.getElem?_eq_getElem hk]
  rfl
theorem mv_test {zs : List Int} {m : MI} {b : Nat} {s : Sl} {h : Own} (h0 : s[0]? = some (some (iLd zs))) (h5 : s[5]? = some (some (.int m.1))) (h7 : s[7]? = some (some (.int m.2.1))) (h8 : s[8]? = some (some (.int m.2.2))) :
    bOr (bNot (eTB (eCh fLe fLt (eC (.int 0)) (eVar 5) (ed (eA fLen (aCons (eVar 0) aNil)))))) (bOr (bNot (eTB (eCh fLe fLt (eC (.int 0)) (eVar 7) (ed (e2 fIx (eVar 0) (eVar 5)))))) (bNot (eTB (eCh fLe fLt (eC (.int 0)) (eVar 8) (ed (e2 fIx (eVar 0) (eVar 5))))))) ⟨b, s⟩ h = .ok (!mvB zs m) h := by
  have e5 : eVar 5 ⟨b, s⟩ h = .ok (.int m.1) h := by simp [h5]
  have e7 : eVar 7 ⟨b, s⟩ h = .ok (.int m.2.1) h := by simp [h7]
  have e8 : eVar 8 ⟨b, s⟩ h = .ok (.int m.2.2) h := by simp [h8]
  have e0 : ed (eA fLen (aCons (eVar 0) aNil)) ⟨b, s⟩ h = .ok (.int (zs.length : Int)) h := by simp [h0]
  have c1 := ch_lt (a := eC (.int 0)) (τ := ⟨b, s⟩) (h := h) rfl e5 e0
  simp only [bOr_eq, bNot_eq, eTB_eq, c1, Res.bind_ok]
  unfold mvB
  by_cases q : (0 ≤ m.1 ∧ m.1 < (zs.length : Int))
  · have ez : ed (e2 fIx (eVar 0) (eVar 5)) ⟨b, s⟩ h = .ok (.int (zAt zs m.1)) h := by simp [h0, h5, ix_z h q.1 q.2]
    have c2 := ch_lt (a := eC (.int 0)) (τ := ⟨b, s⟩) (h := h) rfl e7 ez
    have c3 := ch_lt (a := eC (.int 0)) (τ := ⟨b, s⟩) (h := h) rfl e8 ez
    simp only [q.1, q.2, decide_true, Bool.and_self, Bool.not_true, Bool.false_eq_true, if_false, c2, c3, Res.bind_ok, Bool.true_and]
    generalize (decide (0 ≤ m.2.1) && decide (m.2.1 < zAt zs m.1)) = u
    generalize (decide (0 ≤ m.2.2) && decide (m.2.2 < zAt zs m.1)) = v
    cases u <;> cases v <;> rfl
  · have : (decide (0 ≤ m.1) && decide (m.1 < (zs.length : Int))) = false := by
      rw [Bool.and_eq_false_iff, decide_eq_false_iff_not, decide_eq_false_iff_not]
      omega
    simp [this]
theorem is_action_eq {zs : List Int} {a : AI} (hm : a.2.length < 64) (h : Own) : callB B_is_action [iLd zs, aiD a] h = .ok (.v (.bl (iaB zs a))) h := by
  refine call_v rfl ?_
  unfold B_is_action body S_is_action
  simp only [W_seq]
  simp only [sA_eq, sE_eq, eVar_eq, List.map_cons, List.map_nil, List.length_cons, List.length_nil, List.cons_append, List.nil_append, List.getElem?_cons_succ, List.getElem?_cons_zero, tTup_eq, tCons_eq, tN_eq, tNil_eq, W_th_next, List.replicate, List.set_cons_succ, List.set_cons_zero, Nat.reduceAdd, Nat.reduceSub, W_seq]
  have cmp : ∀ s, compGo none (tTup (tCons (tN 5) (tCons (tN 6) (tCons (tN 6) tNil)))) bYes (eVar 5) h.length [some (iLd zs), some (aiD a), some (.int a.1), some (.lst (a.2.map miD)), s, none, none, none, none] (a.2.map miD) h [] = .ok (.n (.lst ((a.2.map (·.1)).map Z.D.int))) h := fun s => by
    rw [comp_pure miD (fun _ => true) (fun m => Z.D.int m.1) (by simp) a.2 []]
    · rw [List.filter_eq_self.mpr (fun _ _ => rfl)]
      simp
    · intro m _
      exact ⟨_, rfl, by simp, fun _ => by simp⟩
    · exact sz _ (by simp; omega)
  have hs : ∀ H, fSSet [iLd (a.2.map (·.1))] H = .ok (.n (.lst ((sset (a.2.map (·.1))).map .int))) H := fun H => fSSet_eq (ns := a.2.map (·.1)) rfl (by simpa using hm)
  have tE : bOr (bNot (eTB (eCh fLe fLe (eC (.int 0)) (eVar 2) (eC (.int 5))))) (bOr (bNot (eT (eVar 4))) (eTB (e2 fNe (ed (eA fSSet (aCons (eVar 4) aNil))) (eVar 4)))) ⟨h.length, [some (iLd zs), some (aiD a), some (.int a.1), some (.lst (a.2.map miD)), some (iLd (a.2.map (·.1))), none, none, none, none]⟩ h
      = .ok (!((decide (0 ≤ a.1) && decide (a.1 ≤ 5)) && (!a.2.isEmpty && decide (sset (a.2.map (·.1)) = a.2.map (·.1))))) h := by
    have c1 := ch_ll (a := eC (.int 0)) (b := eVar 2) (c := eC (.int 5)) (τ := ⟨h.length, [some (iLd zs), some (aiD a), some (.int a.1), some (.lst (a.2.map miD)), some (iLd (a.2.map (·.1))), none, none, none, none]⟩) (h := h) (i := 0) (j := a.1) (k := 5) rfl rfl rfl
    have n1 := fNe_il (sset (a.2.map (·.1))) (a.2.map (·.1)) h
    simp only [bOr_eq, bNot_eq, eTB_eq, c1, Res.bind_ok]
    generalize (decide (0 ≤ a.1) && decide (a.1 ≤ 5)) = u
    cases u
    · rfl
    · simp only [Bool.not_true, Bool.false_eq_true, if_false, eT_eq, eVar_eq, List.getElem?_cons_succ, List.getElem?_cons_zero, Res.bind_ok, tru_lst, e2_eq, ed_eq, eA_eq, aCons_eq, aNil_eq, hs, frzO_lst, n1, Bool.true_and]
      have em : (iLd (a.2.map (·.1)) = iLd (a.2.map (·.1))) := rfl
      cases q : a.2 with
      | nil => simp
      | cons m ms => simp
  have pl : ed (eComp (iSeq (eVar 3)) (tTup (tCons (tN 5) (tCons (tN 6) (tCons (tN 6) tNil)))) bYes (eVar 5) [5, 6]) ⟨h.length, [some (iLd zs), some (aiD a), some (.int a.1), some (.lst (a.2.map miD)), none, none, none, none, none]⟩ h = .ok (iLd (a.2.map (·.1))) h := by
    simp only [ed_eq, eComp_eq, iSeq_eq, eVar_eq, List.getElem?_cons_succ, List.getElem?_cons_zero, Res.bind_ok, clr_cons, clr_nil, List.set_cons_succ, List.set_cons_zero, cmp, frzO_lst]
  rw [sSet_eq, sE_eq, pl]
  simp only [W_th_next, List.set_cons_succ, List.set_cons_zero, W_seq]
  rw [sIf_eq, sE_eq, tE]
  dsimp only
  generalize hg : ((decide (0 ≤ a.1) && decide (a.1 ≤ 5)) && (!a.2.isEmpty && decide (sset (a.2.map (·.1)) = a.2.map (·.1)))) = g
  have ia : iaB zs a = (g && a.2.all (mvB zs)) := by
    rw [← hg]
    unfold iaB
    simp only [Bool.and_assoc]
  cases g with
  | false =>
    simp [ia]
    exact ⟨_, rfl, by simp⟩
  | true =>
    simp only [Bool.not_true, Bool.false_eq_true, if_false, sPass_eq, W_th_next, W_seq]
    simp only [sFor_eq, sE_eq, iSeq_eq, eVar_eq, List.getElem?_cons_succ, List.getElem?_cons_zero, Res.bind_ok]
    have fa := for_any (g := tTup (tCons (tN 5) (tCons (tN 7) (tCons (tN 8) tNil)))) (bd := sIf (bOr (bNot (eTB (eCh fLe fLt (eC (.int 0)) (eVar 5) (ed (eA fLen (aCons (eVar 0) aNil)))))) (bOr (bNot (eTB (eCh fLe fLt (eC (.int 0)) (eVar 7) (ed (e2 fIx (eVar 0) (eVar 5)))))) (bNot (eTB (eCh fLe fLt (eC (.int 0)) (eVar 8) (ed (e2 fIx (eVar 0) (eVar 5)))))))) (sRet (ev (eC (.bl false)))) sPass) (cl := [5, 7, 8]) (b := h.length)
      (s := [some (iLd zs), some (aiD a), some (.int a.1), some (.lst (a.2.map miD)), some (iLd (a.2.map (·.1))), none, none, none, none]) (h := h) (rr := .v (.bl false)) miD (fun m => !mvB zs m) a.2 (fun m _ => by
        refine ⟨_, [some (iLd zs), some (aiD a), some (.int a.1), some (.lst (a.2.map miD)), some (iLd (a.2.map (·.1))), some (.int m.1), none, some (.int m.2.1), some (.int m.2.2)], rfl, ?_, rfl⟩
        have t := mv_test (zs := zs) (m := m) (b := h.length) (s := [some (iLd zs), some (aiD a), some (.int a.1), some (.lst (a.2.map miD)), some (iLd (a.2.map (·.1))), some (.int m.1), none, some (.int m.2.1), some (.int m.2.2)]) (h := h) rfl rfl rfl rfl
        show sIf _ _ _ ⟨h.length, [some (iLd zs), some (aiD a), some (.int a.1), some (.lst (a.2.map miD)), some (iLd (a.2.map (·.1))), some (.int m.1), none, some (.int m.2.1), some (.int m.2.2)]⟩ h = _
        rw [sIf_eq, sE_eq, t]
        dsimp only
        cases mvB zs m <;> rfl)
    rw [fa]
    have e : (a.2.any fun m => !mvB zs m) = !a.2.all (mvB zs) := by
      rw [List.not_all_eq_any_not]
    rw [e, ia]
    cases a.2.all (mvB zs)
    · exact ⟨_, rfl, by simp⟩
    · simp
      exact ⟨_, rfl, by simp⟩
end K73
set_option Elab.async false
set_option linter.all false
set_option maxRecDepth 100000
set_option maxHeartbeats 2000000
/-! System(sizes, starts, actions). -/
namespace K73
open PySem PySem.Spec L2 Z
def okL (zs ts : List Int) (as : List AI) : Bool := (decide (1 ≤ (zs.length : Int)) && decide ((zs.length : Int) ≤ 4)) && (decide ((ts.length : Int) = zs.length) && decide ((as.length : Int) ≤ 24))
def okZ (zs : List Int) : Bool := zs.all fun z => decide (1 ≤ z) && decide (z ≤ 5)
def okT (zs ts : List Int) : Bool := (ts.zip zs).all fun p => decide (0 ≤ p.1) && decide (p.1 < p.2)
def okA (zs : List Int) (as : List AI) : Bool := as.all (iaB zs)
def okS (zs ts : List Int) (as : List AI) : Bool := ((okL zs ts as && okZ zs) && okT zs ts) && okA zs as
@[simp] theorem sAtt_eq {cs : List Nat} {i : Nat} {o x : ED} {τ : Fm} {h : Own} : sAtt cs i o x τ h = sE x (fun v τ h => sE o (fun d τ h => match fAtt cs i τ.b d v h with
  | some h1 => .next τ.s h1
  | none => .stuck) τ h) τ h := by
  unfold sAtt
  rfl
theorem fAll_map {α : Type} (p : α → Bool) (as : List α) (h : Own) : fAll [.lst (as.map fun a => Z.D.bl (p a))] h = .ok (.v (.bl (as.all p))) h := by
  have fa := fAll_bls (as.map p) h
  rw [List.map_map] at fa
  have fa' : fAll [.lst (as.map fun a => Z.D.bl (p a))] h = _ := fa
  rw [fa', List.all_map]
  rfl
section
variable {zs ts : List Int} {as : List AI} {y5 y6 y7 y8 y9 y10 : Option Z.D} {h H : Own}
abbrev inS (h : Own) (zs ts : List Int) (as : List AI) (v : Option Z.D) : Sl := [some (.ref h.length), some (iLd zs), some (iLd ts), some (.lst (as.map aiD)), v, none, none, none, none, none, none]
theorem in_v1 : vAnd (ed (eCh fLe fLe (eC (.int 1)) (ed (eA fLen (aCons (eVar 1) aNil))) (eC (.int 4)))) (vAnd (ed (e2 fEq (ed (eA fLen (aCons (eVar 2) aNil))) (ed (eA fLen (aCons (eVar 1) aNil))))) (ed (e2 fLe (ed (eA fLen (aCons (eVar 3) aNil))) (eC (.int 24))))) ⟨h.length, inS h zs ts as none⟩ H = .ok (.bl (okL zs ts as)) H := by
  have l1 : ed (eA fLen (aCons (eVar 1) aNil)) ⟨h.length, inS h zs ts as none⟩ H = .ok (.int (zs.length : Int)) H := by simp
  have c1 := ch_ll (a := eC (.int 1)) (c := eC (.int 4)) (τ := ⟨h.length, inS h zs ts as none⟩) (h := H) (i := 1) (k := 4) rfl l1 rfl
  unfold okL
  refine vAnd_b ?_ fun _ => vAnd_b ?_ fun _ => ?_
  · rw [ed_eq, c1]; rfl
  · simp
  · simp
theorem in_v2 (hz : zs.length ≤ 1000) {v : Bool} : vAnd (eVar 4) (ed (eA fAll (aCons (ed (eComp (iSeq (eVar 1)) (tN 5) bYes (ed (eCh fLe fLe (eC (.int 1)) (eVar 5) (eC (.int 5)))) [5])) aNil))) ⟨h.length, inS h zs ts as (some (.bl v))⟩ H = .ok (.bl (v && okZ zs)) H := by
  refine vAnd_b rfl fun _ => ?_
  have fa := fAll_map (fun z : Int => decide (1 ≤ z) && decide (z ≤ 5)) zs H
  simp only [ed_eq, eA_eq, aCons_eq, aNil_eq, eComp_eq, iSeq_eq, eVar_eq, List.getElem?_cons_succ, List.getElem?_cons_zero, Res.bind_ok, clr_cons, clr_nil, List.set_cons_succ, List.set_cons_zero]
  rw [comp_pure Z.D.int (fun _ => true) (fun z => Z.D.bl (decide (1 ≤ z) && decide (z ≤ 5))) (by simp) zs []]
  · rw [List.filter_eq_self.mpr (fun _ _ => rfl)]
    simp only [List.nil_append, Res.bind_ok, frzO_lst, fa]
    rfl
  · intro z _
    refine ⟨_, rfl, by simp, fun _ => ?_⟩
    have c1 := ch_ll (a := eC (.int 1)) (b := eVar 5) (c := eC (.int 5)) (τ := ⟨h.length, [some (.ref h.length), some (iLd zs), some (iLd ts), some (.lst (as.map aiD)), some (.bl v), some (.int z), none, none, none, none, none]⟩) (h := H) (i := 1) (j := z) (k := 5) rfl rfl rfl
    show ed _ ⟨h.length, [some (.ref h.length), some (iLd zs), some (iLd ts), some (.lst (as.map aiD)), some (.bl v), some (.int z), none, none, none, none, none]⟩ H = _
    rw [ed_eq, c1]
    rfl
  · exact sz _ (by simp; omega)
theorem zipD_ii (a b : List Int) : zipD (a.map Z.D.int) (b.map Z.D.int) = (a.zip b).map fun p => Z.D.tup [.int p.1, .int p.2] := by
  unfold zipD
  rw [List.zip_map, List.map_map]
  rfl
theorem in_v3 (hz : zs.length ≤ 1000) {v : Bool} : vAnd (eVar 4) (ed (eA fAll (aCons (ed (eComp (iZp (aCons (eVar 2) (aCons (eVar 1) aNil))) (tTup (tCons (tN 6) (tCons (tN 5) tNil))) bYes (ed (eCh fLe fLt (eC (.int 0)) (eVar 6) (eVar 5))) [6, 5])) aNil))) ⟨h.length, inS h zs ts as (some (.bl v))⟩ H = .ok (.bl (v && okT zs ts)) H := by
  refine vAnd_b rfl fun _ => ?_
  have fa := fAll_map (fun p : Int × Int => decide (0 ≤ p.1) && decide (p.1 < p.2)) (ts.zip zs) H
  simp only [ed_eq, eA_eq, aCons_eq, aNil_eq, eComp_eq, iZp_eq, eVar_eq, List.getElem?_cons_succ, List.getElem?_cons_zero, Res.bind_ok, clr_cons, clr_nil, List.set_cons_succ, List.set_cons_zero, zipD_ii]
  rw [comp_pure (fun p : Int × Int => Z.D.tup [.int p.1, .int p.2]) (fun _ => true) (fun p => Z.D.bl (decide (0 ≤ p.1) && decide (p.1 < p.2))) (by simp) (ts.zip zs) []]
  · rw [List.filter_eq_self.mpr (fun _ _ => rfl)]
    simp only [List.nil_append, Res.bind_ok, frzO_lst, fa]
    rfl
  · intro p _
    refine ⟨_, rfl, by simp, fun _ => ?_⟩
    have c1 := ch_lt (a := eC (.int 0)) (b := eVar 6) (c := eVar 5) (τ := ⟨h.length, [some (.ref h.length), some (iLd zs), some (iLd ts), some (.lst (as.map aiD)), some (.bl v), some (.int p.2), some (.int p.1), none, none, none, none]⟩) (h := H) (i := 0) (j := p.1) (k := p.2) rfl rfl rfl
    show ed _ ⟨h.length, [some (.ref h.length), some (iLd zs), some (iLd ts), some (.lst (as.map aiD)), some (.bl v), some (.int p.2), some (.int p.1), none, none, none, none]⟩ H = _
    rw [ed_eq, c1]
    rfl
  · exact sz _ (by simp [List.length_zip]; omega)
theorem in_v4 (ha : as.length ≤ 1000) (hm : ∀ a ∈ as, a.2.length < 64) {v : Bool} : bOr (bNot (eT (eVar 4))) (bNot (eT (ed (eA fAll (aCons (ed (eComp (iSeq (eVar 3)) (tN 7) bYes (ed (eCall 2 B_is_action (aCons (eVar 1) (aCons (eVar 7) aNil)))) [7])) aNil))))) ⟨h.length, inS h zs ts as (some (.bl v))⟩ H = .ok (!(v && okA zs as)) H := by
  have fa := fAll_map (iaB zs) as H
  cases v with
  | false => simp
  | true =>
    simp only [bOr_eq, bNot_eq, eT_eq, ed_eq, eA_eq, aCons_eq, aNil_eq, eComp_eq, iSeq_eq, eVar_eq, List.getElem?_cons_succ, List.getElem?_cons_zero, Res.bind_ok, clr_cons, clr_nil, List.set_cons_succ, List.set_cons_zero, tru_bl, Bool.not_true, Bool.false_eq_true, if_false]
    rw [comp_pure aiD (fun _ => true) (fun a => Z.D.bl (iaB zs a)) (by simp) as []]
    · rw [List.filter_eq_self.mpr (fun _ _ => rfl)]
      simp only [List.nil_append, Res.bind_ok, frzO_lst, fa, tru_bl, Bool.true_and]
      rfl
    · intro a haa
      refine ⟨_, rfl, by simp, fun _ => ?_⟩
      have c1 := is_action_eq (zs := zs) (hm a haa) H
      simp [c1]
    · exact sz _ (by simp; omega)
end
abbrev atD (a : AI) : Z.D := .tup [.int a.1, .tup (a.2.map miD)]
theorem init_eq {zs ts : List Int} {as : List AI} (hz : zs.length ≤ 1000) (ha : as.length ≤ 1000) (hm : ∀ a ∈ as, a.2.length < 64) (h : Own) :
    W (B_System___init__ h.length [.ref h.length, iLd zs, iLd ts, .lst (as.map aiD)] (h ++ [.ins 0 []])) fun r => if okS zs ts as = true then ∃ s, r = .next s (h ++ [.ins 0 [.tup (zs.map .int), .tup (ts.map .int), .tup (as.map atD)]]) else ∃ s h', r = .exc 1 s h' ∧ h'.take h.length = h := by
  unfold B_System___init__ body S_System___init__
  show W (sSeq _ _ ⟨h.length, inS h zs ts as none⟩ _) _
  refine W_step (s' := inS h zs ts as (some (.bl (okL zs ts as)))) (h' := h ++ [.ins 0 []]) (by rw [sSet_eq, sE_eq, in_v1]; rfl) ?_
  refine W_step (s' := inS h zs ts as (some (.bl (okL zs ts as && okZ zs)))) (h' := h ++ [.ins 0 []]) (by rw [sSet_eq, sE_eq, in_v2 hz]; rfl) ?_
  refine W_step (s' := inS h zs ts as (some (.bl ((okL zs ts as && okZ zs) && okT zs ts)))) (h' := h ++ [.ins 0 []]) (by rw [sSet_eq, sE_eq, in_v3 hz]; rfl) ?_
  have e : okS zs ts as = (((okL zs ts as && okZ zs) && okT zs ts) && okA zs as) := rfl
  rw [W_seq, sIf_eq, sE_eq, in_v4 ha hm, ← e]
  dsimp only
  cases q : okS zs ts as with
  | false =>
    simp
    exact ⟨_, _, rfl, by simp⟩
  | true =>
    simp only [Bool.not_true, Bool.false_eq_true, if_false, if_true, sPass_eq, W_th_next, W_seq]
    have e1 : (h ++ [O.ins 0 []])[h.length]? = some (.ins 0 []) := by simp
    simp [fAtt, attD]
    rw [comp_pure aiD (fun _ => true) atD (by simp) as []]
    · rw [List.filter_eq_self.mpr (fun _ _ => rfl)]
      simp [W]
    · intro a haa
      refine ⟨_, rfl, by simp, fun _ => ?_⟩
      have hma := hm a haa
      simp
      rw [comp_pure miD (fun _ => true) miD (by simp) a.2 []]
      · rw [List.filter_eq_self.mpr (fun _ _ => rfl)]
        simp [show (2 : Nat) ≤ sizeLine from by decide]
      · intro m _
        exact ⟨_, rfl, by simp, fun _ => by simp⟩
      · exact sz _ (by simp; omega)
    · exact sz _ (by simp; omega)
end K73
set_option Elab.async false
set_option linter.all false
set_option maxRecDepth 100000
set_option maxHeartbeats 4000000
/-! systems made, and refused. -/
namespace K73
open PySem PySem.Spec L2 Z
def zI (w : List Nat) : List Int := w.map fun n : Nat => (n : Int)
def aI (d : Dd) : AI := ((d.1 : Int), d.2.map fun m => ((m.1 : Int), (m.2.1 : Int), (m.2.2 : Int)))
theorem nDs_z (w : List Nat) : w.map nD = (zI w).map Z.D.int := by unfold zI; rw [List.map_map]; rfl
theorem mvDs (ms : List Mv) : ms.map mvD = (ms.map fun m => ((m.1 : Int), (m.2.1 : Int), (m.2.2 : Int))).map miD := by rw [List.map_map]; rfl
theorem atD_of (d : Dd) : atD (aI d) = ddD d := by
  show Z.D.tup [.int (d.1 : Int), .tup ((d.2.map fun m => ((m.1 : Int), (m.2.1 : Int), (m.2.2 : Int))).map miD)] = _
  rw [← mvDs]
theorem zAt_z {w : List Nat} {p : Nat} (hp : p < w.length) : zAt (zI w) (p : Int) = (a0 w p : Nat) := by
  unfold zAt zI a0
  rw [Int.toNat_natCast, List.getD_eq_getElem?_getD, List.getD_eq_getElem?_getD, List.getElem?_map, List.getElem?_eq_getElem hp]
  rfl
theorem sset_asc {ns : List Int} (h : ns.Pairwise (· < ·)) : sset ns = ns := asc_uniq (sset_sorted ns) h fun k => mem_sset
theorem ok_of {S : Sy} (O : SyOk S) : okS (zI S.sizes) (zI S.starts) (S.deeds.map aI) = true := by
  have n1 := O.n1
  have n4 := O.n4
  have sl := O.st.len
  have dl := O.dl
  have hL : okL (zI S.sizes) (zI S.starts) (S.deeds.map aI) = true := by
    unfold okL zI
    simp only [List.length_map, Bool.and_eq_true, decide_eq_true_eq]
    omega
  have hZ : okZ (zI S.sizes) = true := by
    unfold okZ zI
    rw [List.all_map, List.all_eq_true]
    intro x hx
    have := O.sz x hx
    simp only [Function.comp, Bool.and_eq_true, decide_eq_true_eq]
    omega
  have hT : okT (zI S.sizes) (zI S.starts) = true := by
    unfold okT
    rw [List.all_eq_true]
    intro p hp
    obtain ⟨i, hi, e⟩ := List.getElem_of_mem hp
    have hi' : i < S.sizes.length := by
      rw [List.length_zip] at hi
      unfold zI at hi
      simp at hi
      omega
    have hi2 : i < S.starts.length := by omega
    have lt := O.st.lt i hi'
    rw [a0_of hi2, a0_of hi'] at lt
    have e1 : p = ((S.starts[i] : Int), (S.sizes[i] : Int)) := by
      rw [← e, List.getElem_zip]
      simp [zI]
    rw [e1]
    simp only [Bool.and_eq_true, decide_eq_true_eq]
    omega
  have hA : okA (zI S.sizes) (S.deeds.map aI) = true := by
    unfold okA
    rw [List.all_map, List.all_eq_true]
    intro d hd
    have D := O.dd d hd
    have lab := D.lab
    show iaB (zI S.sizes) (aI d) = true
    unfold iaB
    have p1 : (aI d).2.map (·.1) = zI (d.2.map (·.1)) := by
      unfold aI zI
      rw [List.map_map, List.map_map]
      rfl
    have p2 : (zI (d.2.map (·.1))).Pairwise (· < ·) := by
      unfold zI
      rw [List.pairwise_map]
      exact D.asc.imp fun h => by omega
    have p3 : ((aI d).2.isEmpty) = false := by
      have := D.ne
      unfold aI
      cases q : d.2 with
      | nil => exact absurd q this
      | cons m ms => rfl
    rw [p1, sset_asc p2, p3]
    have p4 : (aI d).2.all (mvB (zI S.sizes)) = true := by
      unfold aI
      rw [List.all_map, List.all_eq_true]
      intro m hm
      obtain ⟨m1, m2, m3⟩ := D.mv m hm
      show mvB (zI S.sizes) ((m.1 : Int), (m.2.1 : Int), (m.2.2 : Int)) = true
      unfold mvB
      dsimp only
      rw [zAt_z m1]
      have : ((zI S.sizes).length : Int) = S.sizes.length := by unfold zI; simp
      rw [this]
      simp only [Bool.and_eq_true, decide_eq_true_eq]
      omega
    rw [p4]
    have p5 : (aI d).1 = (d.1 : Int) := rfl
    rw [p5]
    simp
    omega
  unfold okS
  rw [hL, hZ, hT, hA]
  rfl
theorem sys_ins (S : Sy) : O.ins 0 [.tup ((zI S.sizes).map .int), .tup ((zI S.starts).map .int), .tup ((S.deeds.map aI).map atD)] = .ins 0 [wD S.sizes, wD S.starts, .tup (S.deeds.map ddD)] := by
  rw [← nDs_z, ← nDs_z, List.map_map]
  have : (atD ∘ aI) = ddD := funext atD_of
  rw [this]
theorem nrfs_sys (S : Sy) : nrfs [wD S.sizes, wD S.starts, .tup (S.deeds.map ddD)] = true := by
  have := nrf_sysD S
  unfold sysD at this
  rw [nrf] at this
  exact this
theorem mkS_eq {S : Sy} (O : SyOk S) {xs : EA} {τ : Fm} {h : Own} (hx : xs τ h = .ok [iLd (zI S.sizes), iLd (zI S.starts), .lst ((S.deeds.map aI).map aiD)] h) : eMkX 0 4 B_System___init__ xs τ h = .ok (.n (.ins 0 [wD S.sizes, wD S.starts, .tup (S.deeds.map ddD)])) h := by
  have n4 := O.n4
  have dl := O.dl
  have i := init_eq (zs := zI S.sizes) (ts := zI S.starts) (as := S.deeds.map aI) (by unfold zI; simp; omega) (by simp; omega) (fun a ha => by
    obtain ⟨d, hd, rfl⟩ := List.mem_map.mp ha
    have := (O.dd d hd).few
    unfold aI
    simp
    omega) h
  unfold W at i
  rw [ok_of O, if_pos rfl] at i
  obtain ⟨s, e⟩ := i
  rw [sys_ins] at e
  rw [eMkX_eq, hx]
  simp only [Res.bind_ok, List.length_cons, List.length_nil, Nat.reduceAdd, if_true, e, hp_get0, List.getElem?_cons_zero, nrfs_sys, List.take_left]
theorem law_made_eq {S : Sy} (O : SyOk S) (h : Own) : callB B__law_made [toldD S] h = .ok (.n (.ins 0 [wD S.sizes, wD S.starts, .tup (S.deeds.map ddD)])) h := by
  refine call_n (nrfs_sys S) ?_
  unfold B__law_made body S__law_made
  have dl := O.dl
  have i0 : fIx (toldD S) (.int 0) h = .ok (.v (wD S.sizes)) h := fIx_q (k := 0) rfl rfl rfl
  have i1 : fIx (toldD S) (.int 1) h = .ok (.v (wD S.starts)) h := fIx_q (k := 1) rfl rfl rfl
  have i2 : fIx (toldD S) (.int 2) h = .ok (.v (.tup (S.deeds.map ddD))) h := fIx_q (k := 2) rfl rfl rfl
  rw [sRet_eq, sE_eq, mkS_eq O]
  · exact ⟨_, rfl, by simp⟩
  · have c : compGo none (tTup (tCons (tN 1) (tCons (tN 2) tNil))) bYes (eTup (aCons (eVar 1) (aCons (ed (eA fList (aCons (eVar 2) aNil))) aNil))) h.length [some (toldD S), none, none] (S.deeds.map ddD) h [] = .ok (.n (.lst ((S.deeds.map aI).map aiD))) h := by
      rw [comp_pure ddD (fun _ => true) (fun d => aiD (aI d)) (by simp) S.deeds []]
      · rw [List.filter_eq_self.mpr (fun _ _ => rfl), List.map_map]
        rfl
      · intro d hd
        refine ⟨_, rfl, by simp, fun _ => ?_⟩
        simp [show (2 : Nat) ≤ sizeLine from by decide, aI]
      · exact sz _ (by simp; omega)
    simp [i0, i1, i2]
    rw [c]
    simp [nDs_z]
theorem is_refused_eq {zs ts : List Int} {as : List AI} (hz : zs.length ≤ 1000) (ha : as.length ≤ 1000) (hm : ∀ a ∈ as, a.2.length < 64) (h : Own) : callB B__law_is_refused [iLd zs, iLd ts, .lst (as.map aiD)] h = .ok (.v (.bl (!okS zs ts as))) h := by
  refine call_v rfl ?_
  unfold B__law_is_refused body S__law_is_refused
  have i := init_eq (zs := zs) (ts := ts) (as := as) hz ha hm h
  unfold W at i
  have hx : (aCons (eVar 0) (aCons (eVar 1) (aCons (eVar 2) aNil))) ⟨h.length, [some (iLd zs), some (iLd ts), some (.lst (as.map aiD))]⟩ h = .ok [iLd zs, iLd ts, .lst (as.map aiD)] h := by simp
  show W (sSeq _ _ ⟨h.length, [some (iLd zs), some (iLd ts), some (.lst (as.map aiD))]⟩ h) _
  rw [W_seq]
  cases q : okS zs ts as with
  | true =>
    rw [q, if_pos rfl] at i
    obtain ⟨s, e⟩ := i
    have hn : nrfs [Z.D.tup (zs.map .int), .tup (ts.map .int), .tup (as.map atD)] = true := by
      have n1 : ∀ w : List Int, nrf (.tup (w.map Z.D.int)) = true := fun w => by rw [nrf, nrf_ints]
      have n2 : nrf (.tup (as.map atD)) = true := by
        rw [nrf, nrfs_all, List.all_eq_true]
        intro d hd
        obtain ⟨a, _, rfl⟩ := List.mem_map.mp hd
        have : nrfs (a.2.map miD) = true := by
          rw [nrfs_all, List.all_eq_true]
          intro d hd
          obtain ⟨m, _, rfl⟩ := List.mem_map.mp hd
          rfl
        simp [nrf, nrfs, this]
      simp [nrfs, n1, n2]
    have st : sX (ed (eMkX 0 4 B_System___init__ (aCons (eVar 0) (aCons (eVar 1) (aCons (eVar 2) aNil))))) ⟨h.length, [some (iLd zs), some (iLd ts), some (.lst (as.map aiD))]⟩ h = .next [some (iLd zs), some (iLd ts), some (.lst (as.map aiD))] h := by
      rw [sX_eq, sE_eq, ed_eq, eMkX_eq, hx]
      simp only [Res.bind_ok, List.length_cons, List.length_nil, Nat.reduceAdd, if_true, e, hp_get0, List.getElem?_cons_zero, hn, List.take_left, frzO_ins]
    rw [sTry_next st]
    simp
    exact ⟨_, rfl, by simp⟩
  | false =>
    rw [q, if_neg (by simp)] at i
    obtain ⟨s, h', e, hk⟩ := i
    have st : sX (ed (eMkX 0 4 B_System___init__ (aCons (eVar 0) (aCons (eVar 1) (aCons (eVar 2) aNil))))) ⟨h.length, [some (iLd zs), some (iLd ts), some (.lst (as.map aiD))]⟩ h = .exc 1 [some (iLd zs), some (iLd ts), some (.lst (as.map aiD))] h := by
      rw [sX_eq, sE_eq, ed_eq, eMkX_eq, hx]
      simp only [Res.bind_ok, List.length_cons, List.length_nil, Nat.reduceAdd, if_true, e, hk, Res.bind_exc]
    rw [sTry_exc st (by simp)]
    simp [nox]
    exact ⟨_, rfl, by simp⟩
end K73
set_option Elab.async false
set_option linter.all false
set_option maxRecDepth 100000
set_option maxHeartbeats 4000000
/-! the faults. -/
namespace K73
open PySem PySem.Spec L2 Z
theorem rep_eq {ds : List Z.D} {k : Nat} {h : Own} (hk : k ≤ 1000) (hl : ds.length ≤ 10) : fMulA (.lst ds) (.int (k : Int)) h = .ok (.n (.lst (List.replicate k ds).flatten)) h := by
  have h1 : fMul (.lst ds) (.int (k : Int)) h = .stuck := rfl
  show (match fMul (.lst ds) (.int (k : Int)) h with | .stuck => fRepL (.lst ds) (.int (k : Int)) h | z => z) = _
  rw [h1]
  dsimp only
  unfold fRepL
  simp only [asL_lst, Int.toNat_natCast]
  have : ds.length * k ≤ 10 * 1000 := Nat.mul_le_mul hl hk
  rw [if_pos ⟨r63 (by omega), sz _ (by omega)⟩]
abbrev Rw := List Int × List Int × List AI
abbrev rwD (r : Rw) : Z.D := .tup [iLd r.1, iLd r.2.1, .lst (r.2.2.map aiD)]
def oneA : AI := (0, [(0, 0, 0)])
def rowsF : List Rw := [([], [], []), ([1, 1, 1, 1, 1], [0, 0, 0, 0, 0], []), ([0], [0], []), ([6], [0], []), ([2], [2], []), ([2, 2], [0], []), ([2], [-1], []), ([1], [0], List.replicate 25 oneA),
  ([1], [0], [(6, [(0, 0, 0)])]), ([1], [0], [(-1, [(0, 0, 0)])]), ([1], [0], [(0, [])]), ([1], [0], [(0, [(1, 0, 0)])]), ([1], [0], [(0, [(0, 1, 0)])]), ([1], [0], [(0, [(0, 0, 1)])]), ([1, 1], [0, 0], [(0, [(1, 0, 0), (0, 0, 0)])]), ([1, 1], [0, 0], [(0, [(0, 0, 0), (0, 0, 0)])])]
theorem rows_bad : ∀ r ∈ rowsF, okS r.1 r.2.1 r.2.2 = false ∧ r.1.length ≤ 1000 ∧ r.2.2.length ≤ 1000 ∧ ∀ a ∈ r.2.2, a.2.length < 64 := by decide +kernel
def goodF : Rw := ([5, 5, 5, 5], [4, 4, 4, 4], List.replicate 24 (5, [(3, 4, 4)]))
theorem good_ok : okS goodF.1 goodF.2.1 goodF.2.2 = true ∧ ∀ a ∈ goodF.2.2, a.2.length < 64 := by decide +kernel
theorem nrf_rowsF : nrfs (rowsF.map rwD) = true := by rfl
theorem faults_eq {h : Own} {d : Nat} {ds : List Int} (hd : Dr h d ds) : ∃ ds', callB B__law_faults_right [.ref d] h = .ok (.v (.bl true)) (h.set d (iL ds')) := by
  obtain ⟨r, ds', hr, e⟩ := take_eq hd (n := 16) (by decide)
  refine ⟨ds', ?_⟩
  have e' : callB B__law_take [.ref d, .int 16] h = .ok (.v (nD r)) (h.set d (iL ds')) := e
  have main : ∃ x h1, (x = Z.D.bl true ∧ h1 = h.set d (iL ds')) ∧ callB B__law_faults_right [.ref d] h = .ok (.v x) (h1.take h.length) := by
    refine call_x ?_
    unfold B__law_faults_right body S__law_faults_right
    show W (sSeq _ _ ⟨h.length, [some (.ref d), none, none, none, none, none]⟩ h) _
    have s1 : (1 : Nat) ≤ sizeLine := by decide
    have s2 : (2 : Nat) ≤ sizeLine := by decide
    have s3 : (3 : Nat) ≤ sizeLine := by decide
    have s16 : (16 : Nat) ≤ sizeLine := by decide
    refine W_step (s' := [some (.ref d), some (aiD oneA), none, none, none, none]) (h' := h) ?_ ?_
    · simp [s1, s2, s3, oneA]
    have r5 : ∀ (z : Z.D), fMulA (.lst [z]) (.int 5) h = .ok (.n (.lst [z, z, z, z, z])) h := fun z => rep_eq (k := 5) (by decide) (by simp)
    have r25 : ∀ (z : Z.D), fMulA (.lst [z]) (.int 25) h = .ok (.n (.lst (List.replicate 25 z))) h := fun z => by
      have := rep_eq (ds := [z]) (k := 25) (h := h) (by decide) (by simp)
      rw [show (List.replicate 25 [z]).flatten = List.replicate 25 z from rfl] at this
      exact this
    refine W_step (s' := [some (.ref d), some (aiD oneA), some (.tup (rowsF.map rwD)), none, none, none]) (h' := h) ?_ ?_
    · simp only [sSet_eq, sE_eq, eTup_eq, aCons_eq, aNil_eq, ed_eq, eLst_eq, e2_eq, eC_eq, eVar_eq, Res.bind_ok, r5, r25, frzO_lst, fSub_ii, List.getElem?_cons_succ, List.getElem?_cons_zero, List.length_cons, List.length_nil, Nat.reduceAdd, s1, s2, s3, s16, Nat.zero_le, if_true, List.set_cons_succ, List.set_cons_zero, sz 0 (Nat.zero_le _)]
      rfl
    have hr' : r < rowsF.length := hr
    have ix : ∀ H, fIx (.tup (rowsF.map rwD)) (nD r) H = .ok (.v (rwD rowsF[r])) H := fun H => fIx_q (ds := rowsF.map rwD) rfl rfl (by rw [List.getElem?_map, List.getElem?_eq_getElem hr']; rfl)
    obtain ⟨b0, b1, b2, b3⟩ := rows_bad rowsF[r] (List.getElem_mem hr')
    generalize rowsF[r] = rw0 at *
    refine W_step (s' := [some (.ref d), some (aiD oneA), some (.tup (rowsF.map rwD)), some (iLd rw0.1), some (iLd rw0.2.1), some (.lst (rw0.2.2.map aiD))]) (h' := h.set d (iL ds')) ?_ ?_
    · simp [e', ix]
    have c1 := is_refused_eq (ts := rw0.2.1) b1 b2 b3 (h.set d (iL ds'))
    rw [b0] at c1
    have c2 := is_refused_eq (zs := goodF.1) (ts := goodF.2.1) (as := goodF.2.2) (by decide) (by decide) good_ok.2 (h.set d (iL ds'))
    rw [good_ok.1] at c2
    have r4 : ∀ (z : Z.D), fMulA (.lst [z]) (.int 4) (h.set d (iL ds')) = .ok (.n (.lst [z, z, z, z])) (h.set d (iL ds')) := fun z => rep_eq (k := 4) (by decide) (by simp)
    have r24 : ∀ (z : Z.D), fMulA (.lst [z]) (.int 24) (h.set d (iL ds')) = .ok (.n (.lst (List.replicate 24 z))) (h.set d (iL ds')) := fun z => by
      have := rep_eq (ds := [z]) (k := 24) (h := h.set d (iL ds')) (by decide) (by simp)
      rw [show (List.replicate 24 [z]).flatten = List.replicate 24 z from rfl] at this
      exact this
    have c2' : callB B__law_is_refused [.lst [.int 5, .int 5, .int 5, .int 5], .lst [.int 4, .int 4, .int 4, .int 4], .lst (List.replicate 24 (.tup [.int 5, .lst [.tup [.int 3, .int 4, .int 4]]]))] (h.set d (iL ds')) = .ok (.v (.bl false)) (h.set d (iL ds')) := c2
    simp only [sRet_eq, sE_eq, ev_eq, vAnd_eq, ed_eq, eCall_eq, aCons_eq, aNil_eq, eVar_eq, eC_eq, e1_eq, e2_eq, eLst_eq, eTup_eq, Res.bind_ok, List.getElem?_cons_succ, List.getElem?_cons_zero, List.length_cons, List.length_nil, Nat.reduceAdd, if_true, c1, r4, r24, frzO_lst, s1, s2, s3, c2', fNotB_b, Bool.not_false]
    exact ⟨_, _, rfl, rfl, rfl, rfl⟩
  obtain ⟨x, h1, ⟨rfl, rfl⟩, c⟩ := main
  rw [c, List.take_of_length_le (by simp)]
end K73
set_option Elab.async false
set_option linter.all false
set_option maxRecDepth 100000
set_option maxHeartbeats 4000000
/-! the drawn system. -/
namespace K73
open PySem PySem.Spec L2 Z
/-! dicts of moves -/
def mdD (ms : List Mv) : List (Key × Z.D) := ms.map fun m => ((Sum.inl (m.1 : Int) : Key), mvD m)
theorem key_nat {a b : Nat} : ((Sum.inl (a : Int) : Key) = Sum.inl (b : Int)) ↔ a = b := by
  constructor
  · intro h
    have := Sum.inl.inj h
    omega
  · rintro rfl; rfl
structure MsOk (sizes : List Nat) (ms : List Mv) : Prop where
  nd : (ms.map (·.1)).Nodup
  mv : ∀ m ∈ ms, m.1 < sizes.length ∧ m.2.1 < a0 sizes m.1 ∧ m.2.2 < a0 sizes m.1
theorem put_md {sizes : List Nat} {ms : List Mv} (O : MsOk sizes ms) {m : Mv} (hm : m.1 < sizes.length ∧ m.2.1 < a0 sizes m.1 ∧ m.2.2 < a0 sizes m.1) :
    ∃ ms', putD (mdD ms) (Sum.inl (m.1 : Int)) (mvD m) = mdD ms' ∧ MsOk sizes ms' ∧ ms' ≠ [] ∧ ms'.length ≤ ms.length + 1 := by
  unfold putD
  have h1 : ((mdD ms).any fun p => decide (p.1 = (Sum.inl (m.1 : Int) : Key))) = decide (m.1 ∈ ms.map (·.1)) := by
    unfold mdD
    rw [List.any_map, Bool.eq_iff_iff, List.any_eq_true, decide_eq_true_eq, List.mem_map]
    constructor
    · rintro ⟨x, hx, e⟩
      exact ⟨x, hx, key_nat.mp (of_decide_eq_true e)⟩
    · rintro ⟨x, hx, e⟩
      exact ⟨x, hx, decide_eq_true (key_nat.mpr e)⟩
  rw [h1]
  by_cases h : m.1 ∈ ms.map (·.1)
  · rw [if_pos (by simpa using h)]
    refine ⟨ms.map fun x => if x.1 = m.1 then m else x, ?_, ⟨?_, ?_⟩, ?_, by simp⟩
    · unfold mdD
      rw [List.map_map, List.map_map]
      apply List.map_congr_left
      intro x _
      simp only [Function.comp]
      by_cases e : x.1 = m.1
      · rw [if_pos (key_nat.mpr e), if_pos e, e]
      · rw [if_neg (fun z => e (key_nat.mp z)), if_neg e]
    · rw [List.map_map]
      have : ((fun x : Mv => x.1) ∘ fun x : Mv => if x.1 = m.1 then m else x) = fun x : Mv => x.1 := by
        funext x
        simp only [Function.comp]
        split
        · rename_i e; exact e.symm
        · rfl
      rw [this]
      exact O.nd
    · intro y hy
      obtain ⟨x, hx, rfl⟩ := List.mem_map.mp hy
      split
      · exact hm
      · exact O.mv x hx
    · intro z
      rw [List.map_eq_nil_iff] at z
      subst z
      simp at h
  · rw [if_neg (by simpa using h)]
    refine ⟨ms ++ [m], by simp [mdD], ⟨?_, ?_⟩, by simp, by simp⟩
    · rw [List.map_append, List.nodup_append]
      refine ⟨O.nd, by simp, fun x hx y hy => ?_⟩
      simp at hy
      subst hy
      rintro rfl
      exact h hx
    · intro y hy
      rcases List.mem_append.mp hy with z | z
      · exact O.mv y z
      · rw [List.mem_singleton.mp z]; exact hm
def lkM (ms : List Mv) (p : Nat) : Mv := (ms.find? fun m => decide (m.1 = p)).getD (0, 0, 0)
theorem lkM_ok {ms : List Mv} {p : Nat} (h : p ∈ ms.map (·.1)) : lkM ms p ∈ ms ∧ (lkM ms p).1 = p ∧ getD (mdD ms) (Sum.inl (p : Int)) = some (mvD (lkM ms p)) := by
  induction ms with
  | nil => simp at h
  | cons m ms ih =>
    unfold lkM getD mdD at ih ⊢
    rw [List.map_cons, List.find?_cons, List.find?_cons]
    by_cases e : m.1 = p
    · subst e
      simp
    · have h' : p ∈ ms.map (·.1) := by
        rw [List.map_cons, List.mem_cons] at h
        rcases h with rfl | h
        · exact absurd rfl e
        · exact h
      have e2 : ¬ ((Sum.inl (m.1 : Int) : Key) = Sum.inl (p : Int)) := fun z => e (key_nat.mp z)
      simp only [e, e2, decide_false]
      obtain ⟨g1, g2, g3⟩ := ih h'
      exact ⟨List.mem_cons_of_mem _ g1, g2, g3⟩
theorem ix_md {H : Own} {n p : Nat} {ms : List Mv} (e : H[n]? = some (.dK (mdD ms))) (h : p ∈ ms.map (·.1)) : fIx (.ref n) (nD p) H = .ok (.v (mvD (lkM ms p))) H := by
  have h1 : fIxQ (.ref n) (nD p) H = .stuck := by
    unfold fIxQ asQ asL
    simp [e]
  have h3 : fIxD (.ref n) (nD p) H = .ok (.v (mvD (lkM ms p))) H := by
    unfold fIxD askD asD
    simp only [e, asK_int, Option.map_some, (lkM_ok h).2.2]
  have h2 : fIxS (.ref n) (nD p) H = .stuck := by
    unfold fIxS
    rfl
  show (match fIxQ (.ref n) (nD p) H with | .stuck => _ | z => z) = _
  rw [h1]
  dsimp only
  show (match fIxS (.ref n) (nD p) H with | .stuck => _ | z => z) = _
  rw [h2]
  exact h3
theorem sorted_md {H : Own} {n : Nat} {ms : List Mv} (nd : (ms.map (·.1)).Nodup) (hl : ms.length < 64) (e : H[n]? = some (.dK (mdD ms))) : fSorted [.ref n] H = .ok (.n (.lst ((srt (ms.map (·.1))).map nD))) H := by
  have e1 : isort ((ms.map (·.1)).map fun c : Nat => (c : Int)) = (srt (ms.map (·.1))).map fun c : Nat => (c : Int) := by
    symm
    apply isort_uniq
    · exact (List.mergeSort_perm _ _).map _
    · have := List.pairwise_mergeSort (le := fun a b : Nat => decide (a ≤ b)) (fun a b c h1 h2 => by simp at *; omega) (fun a b => by simp; omega) (ms.map (·.1))
      rw [List.pairwise_map]
      exact this.imp fun h => by simp at h; omega
  have k1 : (mdD ms).map (·.1) = ((ms.map (·.1)).map fun c : Nat => (c : Int)).map Sum.inl := by unfold mdD; simp
  have hI : fSortI [.ref n] H = .stuck := by
    unfold fSortI asL
    simp [e]
  have hD : fSortD [.ref n] H = .ok (.n (.lst ((isort ((ms.map (·.1)).map fun c : Nat => (c : Int))).map .int))) H := by
    unfold fSortD asD
    simp only [e, k1, keyI_map]
    rw [if_pos (by simpa using hl)]
  show (match fSortI [.ref n] H with | .stuck => fSortD [.ref n] H | z => z) = _
  rw [hI]
  dsimp only
  rw [hD, e1, List.map_map]
  rfl
theorem srt_mem {cs : List Nat} {x : Nat} : x ∈ srt cs ↔ x ∈ cs := (List.mergeSort_perm _ _).mem_iff
theorem srt_asc {cs : List Nat} (nd : cs.Nodup) : (srt cs).Pairwise (· < ·) := by
  have h1 := List.pairwise_mergeSort (le := fun a b : Nat => decide (a ≤ b)) (fun a b c h1 h2 => by simp at *; omega) (fun a b => by simp; omega) cs
  have h2 : (srt cs).Nodup := (List.mergeSort_perm _ _).nodup_iff.mpr nd
  exact (h1.and h2).imp fun ⟨a, b⟩ => by simp at a; omega
def srtM (ms : List Mv) : List Mv := (srt (ms.map (·.1))).map (lkM ms)
theorem srtM_ok {sizes : List Nat} {ms : List Mv} (O : MsOk sizes ms) (ne : ms ≠ []) (hl : ms.length ≤ 2) {l : Nat} (h4 : l < 4) : DdOk sizes (l, srtM ms) := by
  have e1 : (srtM ms).map (·.1) = srt (ms.map (·.1)) := by
    unfold srtM
    rw [List.map_map]
    conv => rhs; rw [← List.map_id (srt (ms.map (·.1)))]
    apply List.map_congr_left
    intro p hp
    exact (lkM_ok (srt_mem.mp hp)).2.1
  refine ⟨h4, fun z => ?_, by show ((srtM ms).map (·.1)).Pairwise (· < ·); rw [e1]; exact srt_asc O.nd, fun m hm => ?_, ?_⟩
  · have z' : srtM ms = [] := z
    unfold srtM at z'
    rw [List.map_eq_nil_iff] at z'
    have := (List.mergeSort_perm (ms.map (·.1)) (· ≤ ·)).length_eq
    rw [show (ms.map (·.1)).mergeSort (· ≤ ·) = srt (ms.map (·.1)) from rfl, z'] at this
    simp at this
    exact ne (List.length_eq_zero_iff.mp this.symm)
  · obtain ⟨p, hp, rfl⟩ := List.mem_map.mp hm
    exact O.mv _ (lkM_ok (srt_mem.mp hp)).1
  · show (srtM ms).length ≤ 2
    unfold srtM srt
    rw [List.length_map, List.length_mergeSort, List.length_map]
    exact hl
end K73
set_option Elab.async false
set_option linter.all false
set_option maxRecDepth 100000
set_option maxHeartbeats 4000000
namespace K73
open PySem PySem.Spec L2 Z
inductive SzI (h : Own) (d : Nat) (k : Nat) (acc : List Z.D) (H : Own) : Prop
  | mk (b : List Nat) (D : Dq h d H) (hl : H.length = h.length) (ha : acc = b.map nD) (len : b.length = k) (lt : ∀ x ∈ b, 1 ≤ x ∧ x ≤ 4)
inductive StI (h : Own) (d : Nat) (sizes : List Nat) (n : Nat) (G : Option Z.O) (k : Nat) (acc : List Z.D) (H : Own) : Prop
  | mk (b : List Nat) (D : Dq h d H) (hG : H[n]? = G) (ha : acc = b.map nD) (len : b.length = k) (lt : ∀ i, i < k → a0 b i < a0 sizes i)
abbrev lsS (h : Own) (d P : Nat) (sizes : List Nat) (y7 y9 y10 y11 : Option Z.D) : Sl := [some (.ref d), some (.int 4), some (.int 4), some (.int 10), some (.int 4), some (nD P), some (wD sizes), y7, some (.ref h.length), y9, y10, y11, none]
inductive DeI (h : Own) (d P : Nat) (sizes : List Nat) (k : Nat) (s : Sl) (H : Own) : Prop
  | mk (ds : List Dd) (y7 : Option Z.D) (D : Dq h d H) (len : ds.length = k) (ok : ∀ x ∈ ds, DdOk sizes x) (hs : s = lsS h d P sizes y7 none none none) (hH : H[h.length]? = some (.lst (ds.map ddD)))
inductive MvI (h : Own) (d P : Nat) (sizes : List Nat) (k n : Nat) (ds : List Dd) (j : Nat) (s : Sl) (H : Own) : Prop
  | mk (ms : List Mv) (y7 : Option Z.D) (D : Dq h d H) (hn : h.length < n) (ok : MsOk sizes ms) (len : ms.length ≤ j) (ne : 0 < j → ms ≠ []) (hs : s = lsS h d P sizes y7 (some (nD k)) (some (.ref n)) none) (hH : H[h.length]? = some (.lst (ds.map ddD))) (hM : H[n]? = some (.dK (mdD ms)))
theorem a0_snoc {b : List Nat} {x : Nat} {i : Nat} : a0 (b ++ [x]) i = if i = b.length then x else if i < b.length then a0 b i else 0 := by
  unfold a0
  rw [List.getD_eq_getElem?_getD, List.getD_eq_getElem?_getD]
  by_cases h : i < b.length
  · rw [List.getElem?_append_left h, if_neg (by omega), if_pos h]
  · rw [List.getElem?_append_right (by omega)]
    by_cases h2 : i = b.length
    · subst h2; simp
    · rw [if_neg h2, if_neg h]
      have : i - b.length ≠ 0 := by omega
      cases q : i - b.length with
      | zero => exact absurd q this
      | succ m => rfl
theorem inner_ok {h : Own} {d P : Nat} {sizes : List Nat} {k n : Nat} {ds : List Dd} (hP : 1 ≤ P) (hsl : sizes.length = P) (hsz : ∀ x ∈ sizes, 1 ≤ x ∧ x ≤ 4) (hdn : d < h.length) {J : Nat} (hJ : J ≤ 2) {s : Sl} {H : Own} (i0 : MvI h d P sizes k n ds 0 s H) (Q : SRes → Prop) (hq : ∀ s H, MvI h d P sizes k n ds J s H → Q (.next s H)) :
    W (forGo none (tN 11) (sSeq (sSet 7 (ed (eCall 2 B__law_take (aCons (eVar 0) (aCons (eVar 5) aNil)))))
  (sPut (eVar 10) (eVar 7) (eTup (aCons (eVar 7) (aCons (ed (eCall 2 B__law_take (aCons (eVar 0) (aCons (ed (e2 fIx (eVar 6) (eVar 7))) aNil)))) (aCons (ed (eCall 2 B__law_take (aCons (eVar 0) (aCons (ed (e2 fIx (eVar 6) (eVar 7))) aNil)))) aNil)))))) [11] h.length (rngD 0 J) s H) Q := by
  refine W_range J (MvI h d P sizes k n ds) i0 ?_ hq
  rintro j s H hj ⟨ms, y7, D, hn, ok, len, ne, rfl, hH, hM⟩
  refine ⟨_, _, rfl, ?_⟩
  obtain ⟨p, H1, hp, e1, D1, l1, k1⟩ := Dq_draw D (n := P) (by omega)
  have hps : p < sizes.length := by omega
  have hpos : 0 < a0 sizes p := by rw [a0_of hps]; exact (hsz _ (List.getElem_mem hps)).1
  obtain ⟨u, H2, hu, e2, D2, l2, k2⟩ := Dq_draw D1 (n := a0 sizes p) hpos
  obtain ⟨v, H3, hv, e3, D3, l3, k3⟩ := Dq_draw D2 (n := a0 sizes p) hpos
  have ix : ∀ H, fIx (wD sizes) (nD p) H = .ok (.v (nD (a0 sizes p))) H := fun H => ix_st H hps
  have g1 : H3[h.length]? = some (.lst (ds.map ddD)) := by rw [k3 _ (by omega), k2 _ (by omega), k1 _ (by omega)]; exact hH
  have g2 : H3[n]? = some (.dK (mdD ms)) := by rw [k3 _ (by omega), k2 _ (by omega), k1 _ (by omega)]; exact hM
  obtain ⟨ms', q1, q2, q3, q4⟩ := put_md ok (m := (p, u, v)) ⟨hps, hu, hv⟩
  have s3 : (3 : Nat) ≤ sizeLine := by decide
  have hlm : (mdD ms).length < sizeLine := by unfold mdD; rw [List.length_map]; exact szl (by omega)
  have pt : fPut h.length (.ref n) (nD p) (mvD (p, u, v)) H3 = some (H3.set n (.dK (mdD ms'))) := by
    have ak : asK (nD p) = some (Sum.inl (p : Int)) := rfl
    unfold fPut
    simp only [g2, ak]
    rw [if_pos hlm, putO_own (Nat.le_of_lt hn), q1]
  generalize a0 sizes p = z at *
  simp only [W_seq]
  simp [e1, e2, e3, ix, s3, pt]
  refine ⟨ms', some (nD p), D3.set (by omega) _, hn, q2, by omega, fun _ => q3, rfl, ?_, ?_⟩
  · rw [get_set_ne (by omega)]; exact g1
  · rw [get_set_self (lt_of_get g2)]
theorem nrf_sysT (S : Sy) : nrf (toldD S) = true := by
  have := nrfs_sys S
  simp [toldD, nrf] at this ⊢
  exact this
theorem law_system_eq {h : Own} {d : Nat} {ds0 : List Int} (hd : Dr h d ds0) : ∃ (S : Sy) (ds' : List Int), SyOk S ∧ callB B__law_system [.ref d, .int 4, .int 4, .int 10, .int 4] h = .ok (.v (toldD S)) (h.set d (iL ds')) := by
  have main : ∃ dd h1, (∃ S, dd = toldD S ∧ SyOk S ∧ Dq h d h1) ∧ callB B__law_system [.ref d, .int 4, .int 4, .int 10, .int 4] h = .ok (.v dd) (h1.take h.length) := by
    refine call_x ?_
    have dlt : d < h.length := lt_of_get hd
    unfold B__law_system body S__law_system
    show W (sSeq _ _ ⟨h.length, [some (.ref d), some (.int 4), some (.int 4), some (.int 10), some (.int 4), none, none, none, none, none, none, none, none]⟩ h) _
    obtain ⟨r, H1, hr, e1, D1, l1, k1⟩ := Dq_draw (Dq.refl hd) (n := 4) (by decide)
    have e1' : callB B__law_take [.ref d, .int 4] h = .ok (.v (nD r)) H1 := e1
    obtain ⟨P, hP, hP2⟩ : ∃ P : Nat, (1 + (r : Int)) = (P : Int) ∧ P = r + 1 := ⟨r + 1, by omega, rfl⟩
    refine W_step (s' := [some (.ref d), some (.int 4), some (.int 4), some (.int 10), some (.int 4), some (nD P), none, none, none, none, none, none, none]) (h' := H1) (by simp [e1', hP]) ?_
    have hcomp := comp_ind (g := tN 7) (t := bYes) (x := ed (e2 fAdd (eC (.int 1)) (ed (eCall 2 B__law_take (aCons (eVar 0) (aCons (eVar 2) aNil)))))) (b := h.length) (s := [some (.ref d), some (.int 4), some (.int 4), some (.int 10), some (.int 4), some (nD P), none, none, none, none, none, none, none]) (fun k : Nat => Z.D.int (k : Int)) (List.range P) (SzI h d) (sz _ (by simp; omega)) (by
      rintro k acc H hk ⟨b, D, hl, rfl, len, lt⟩
      obtain ⟨c, H', hc, e2, D2, l2, k2⟩ := Dq_draw D (n := 4) (by decide)
      have e2' : callB B__law_take [.ref d, .int 4] H = .ok (.v (nD c)) H' := e2
      have hc1 : (1 + (c : Int)) = ((c + 1 : Nat) : Int) := by omega
      refine ⟨_, _, _, rfl, .inr ⟨rfl, nD (c + 1), H', ?_, b ++ [c + 1], D2, by omega, by simp, by simp [len], ?_⟩⟩
      · simp [e2', hc1]
      · intro x hx
        rcases List.mem_append.mp hx with hx | hx
        · exact lt x hx
        · rw [List.mem_singleton] at hx; subst hx; omega) (h := H1) ⟨[], D1, l1, rfl, rfl, fun x hx => by cases hx⟩
    obtain ⟨acc, H2, ec, sizes, D2, l2, rfl, lens, hsz⟩ := hcomp
    rw [List.length_range] at lens
    refine W_step (s' := [some (.ref d), some (.int 4), some (.int 4), some (.int 10), some (.int 4), some (nD P), some (wD sizes), none, none, none, none, none, none]) (h' := H2) ?_ ?_
    · simp [r62 (show P ≤ 1000000 by omega), rngD_zero, ec]
    refine W_step (s' := lsS h d P sizes none none none none) (h' := H2 ++ [.lst []]) (by simp [lsS, l2, sz 0]) ?_
    obtain ⟨r2, H3, hr2, e3, D3, l3, k3⟩ := Dq_draw (D2.push (.lst [])) (n := 11) (by decide)
    have e3' : callB B__law_take [.ref d, .int 11] (H2 ++ [.lst []]) = .ok (.v (nD r2)) H3 := e3
    have hH3 : H3[h.length]? = some (.lst (([] : List Dd).map ddD)) := by
      rw [k3 _ (by omega), ← l2]
      simp
    refine W_stepW (P := fun r => ∃ s H, r = .next s H ∧ DeI h d P sizes r2 s H) ?_ ?_
    · simp [lsS, e3', r62 (show r2 ≤ 1000000 by omega)]
      refine W_range _ (DeI h d P sizes) ⟨[], none, D3, rfl, (fun x hx => by cases hx), rfl, hH3⟩ ?_ (fun s H i => ⟨_, _, rfl, i⟩)
      rintro k s H hk ⟨ds, y7, D, len, ok, rfl, hH⟩
      refine ⟨_, _, rfl, ?_⟩
      have hlt : h.length < H.length := lt_of_get hH
      obtain ⟨r3, H4, hr3, e4, D4, l4, k4⟩ := Dq_draw (D.push (.dK [])) (n := 3) (by decide)
      have e4' : callB B__law_take [.ref d, .int 3] (H ++ [.dK []]) = .ok (.v (nD r3)) H4 := e4
      have g1 : H4[h.length]? = some (.lst (ds.map ddD)) := by
        rw [k4 _ (by omega), List.getElem?_append_left hlt]; exact hH
      have g2 : H4[H.length]? = some (.dK (mdD [])) := by
        rw [k4 _ (by omega)]
        simp [mdD]
      refine W_step (s' := lsS h d P sizes y7 (some (nD k)) (some (.ref H.length)) none) (h' := H ++ [.dK []]) (by simp [eNewK]) ?_
      obtain ⟨J, hJ, hJ2, hJ3⟩ : ∃ J : Nat, (1 + (if (r3 : Int) = 0 then (1 : Int) else 0)) = (J : Int) ∧ J ≤ 2 ∧ 1 ≤ J := by
        by_cases z : (r3 : Int) = 0
        · exact ⟨2, by rw [if_pos z]; rfl, by omega, by omega⟩
        · exact ⟨1, by rw [if_neg z]; rfl, by omega, by omega⟩
      have it : iR1 (aCons (ed (e2 fAdd (eC (.int 1)) (ed (eIf (eTB (e2 fEq (ed (eCall 2 B__law_take (aCons (eVar 0) (aCons (eC (.int 3)) aNil)))) (eC (.int 0)))) (ev (eC (.int 1))) (ev (eC (.int 0))))))) aNil) ⟨h.length, lsS h d P sizes y7 (some (nD k)) (some (.ref H.length)) none⟩ (H ++ [.dK []]) = .ok (rngD 0 J, none) H4 := by
        by_cases z : (r3 : Int) = 0
        · have hJ' : J = 2 := by rw [if_pos z] at hJ; omega
          subst hJ'
          simp [lsS, e4', z, r62 (show 2 ≤ 1000000 by decide)]
          exact r62 (n := 2) (by decide)
        · have hJ' : J = 1 := by rw [if_neg z] at hJ; omega
          subst hJ'
          have z' : ¬ r3 = 0 := by omega
          simp [lsS, e4']
          rw [if_neg z']
          simp
          exact r62 (n := 1) (by decide)
      refine W_stepW (P := fun r => ∃ s H', r = .next s H' ∧ MvI h d P sizes k H.length ds J s H') ?_ ?_
      · rw [sFor_eq, sE_eq, it]
        exact inner_ok (by omega) (by omega) hsz dlt hJ2 ⟨[], y7, D4, hlt, ⟨by simp, fun m hm => by cases hm⟩, Nat.le_refl _, fun z => absurd z (by omega), rfl, g1, g2⟩ _ fun s H' i => ⟨_, _, rfl, i⟩
      · rintro _ ⟨s5, H5, rfl, ms, y7', D5, hn5, ok5, len5, ne5, rfl, hH5, hM5⟩
        refine ⟨_, _, rfl, ?_⟩
        obtain ⟨l, H6, hl6, e6, D6, l6, k6⟩ := Dq_draw D5 (n := 4) (by decide)
        have e6' : callB B__law_take [.ref d, .int 4] H5 = .ok (.v (nD l)) H6 := e6
        have m1 : H6[h.length]? = some (.lst (ds.map ddD)) := by rw [k6 _ (by omega)]; exact hH5
        have m2 : H6[H.length]? = some (.dK (mdD ms)) := by rw [k6 _ (by omega)]; exact hM5
        have so := sorted_md ok5.nd (by omega) m2
        have cm : compGo none (tN 7) bYes (ed (e2 fIx (eVar 10) (eVar 7))) h.length [some (.ref d), some (.int 4), some (.int 4), some (.int 10), some (.int 4), some (nD P), some (wD sizes), none, some (.ref h.length), some (nD k), some (.ref H.length), none, none] ((srt (ms.map (·.1))).map nD) H6 [] = .ok (.n (.lst ((srtM ms).map mvD))) H6 := by
          rw [comp_pure nD (fun _ => true) (fun p => mvD (lkM ms p)) (by simp) (srt (ms.map (·.1))) []]
          · rw [List.filter_eq_self.mpr (fun _ _ => rfl)]
            simp [srtM]
          · intro p hp
            have ix := ix_md m2 (srt_mem.mp hp)
            exact ⟨_, rfl, by simp, fun _ => by simp [ix]⟩
          · refine sz _ ?_
            unfold srt
            simp
            omega
        have hlen : ds.length < sizeLine := szl (by omega)
        have s2 : (2 : Nat) ≤ sizeLine := by decide
        simp [lsS, e6', so, cm, m1, hH5, hlen, s2, putO_own (Nat.le_refl _)]
        refine ⟨ds ++ [(l, srtM ms)], y7', D6.set (Nat.le_refl _) _, by simp [len], ?_, rfl, ?_⟩
        · intro x hx
          rcases List.mem_append.mp hx with z | z
          · exact ok x z
          · rw [List.mem_singleton.mp z]
            exact srtM_ok ok5 (ne5 (by omega)) (by omega) hl6
        · rw [get_set_self (lt_of_get m1)]
          simp
    · rintro _ ⟨s, H4, rfl, ds, y7, D4, len, ok, rfl, hH4⟩
      refine ⟨_, _, rfl, ?_⟩
      have hcomp := comp_ind (g := tN 12) (t := bYes) (x := ed (eCall 2 B__law_take (aCons (eVar 0) (aCons (eVar 12) aNil)))) (b := h.length) (s := lsS h d P sizes y7 none none none) nD sizes (StI h d sizes h.length (some (.lst (ds.map ddD)))) (sz _ (by omega)) (by
        rintro k acc H hk ⟨b, D, hG, rfl, len', lt⟩
        have hp : 0 < sizes[k] := (hsz _ (List.getElem_mem hk)).1
        obtain ⟨c, H', hc, e2, D2, l2', k2⟩ := Dq_draw D (n := sizes[k]) hp
        refine ⟨_, _, _, rfl, .inr ⟨rfl, nD c, H', ?_, b ++ [c], D2, by rw [k2 _ (by omega)]; exact hG, by simp, by simp [len'], ?_⟩⟩
        · generalize sizes[k] = z at *
          simp [lsS, e2]
        · intro i hi
          rw [a0_snoc]
          by_cases q : i = b.length
          · rw [if_pos q]
            have : i = k := by omega
            subst this
            rw [a0_of hk]
            exact hc
          · rw [if_neg q, if_pos (by omega)]
            exact lt i (by omega)) (h := H4) ⟨[], D4, hH4, rfl, rfl, fun i hi => by omega⟩
      obtain ⟨acc, H5, ec2, starts, D5, hG, rfl, lenst, ltst⟩ := hcomp
      have s3 : (3 : Nat) ≤ sizeLine := by decide
      simp [lsS] at ec2
      simp [lsS, ec2, hG, s3]
      refine ⟨toldD ⟨sizes, starts, ds⟩, H5, rfl, nrf_sysT _, ⟨⟨sizes, starts, ds⟩, rfl, ⟨by show 1 ≤ sizes.length; omega, by show sizes.length ≤ 4; omega, hsz, ⟨lenst, fun i hi => ltst i hi⟩, by show ds.length ≤ 10; omega, ok⟩, D5⟩⟩
  obtain ⟨dd, h1, ⟨S, rfl, ok, D⟩, c⟩ := main
  obtain ⟨ds', e⟩ := D.cut
  exact ⟨S, ds', ok, by rw [c, e]⟩
end K73
set_option Elab.async false
set_option linter.all false
set_option maxRecDepth 100000
set_option maxHeartbeats 4000000
/-! the drawn run. -/
namespace K73
open PySem PySem.Spec L2 Z
theorem bh_snoc {S : Sy} (a : Int) : ∀ (r : List Int) (st : List Nat), bh S st (r ++ [a]) = (bh S st r).bind fun st' => if inP (ps S st') a = true then some (mvd S st' a.toNat) else none
  | [], st => by simp [bh]
  | b :: r, st => by
    rw [List.cons_append, bh, bh]
    split
    · exact bh_snoc a r _
    · rfl
inductive RuI (S : Sy) (h : Own) (d : Nat) (k : Nat) (s : Sl) (H : Own) : Prop
  | mk (rs st : List Nat) (D : Dq h d H) (hl : H.length = h.length) (len : rs.length ≤ k) (C : Cmb S.sizes st) (e : bh S S.starts (zI rs) = some st) (mem : ∀ a ∈ rs, a < S.deeds.length) (hs : s = [some (.ref d), some (toldD S), some (.int 9), some (wD rs), some (wD st), none, none, none])
theorem law_run_eq {S : Sy} (O : SyOk S) {h : Own} {d : Nat} {ds0 : List Int} (hd : Dr h d ds0) : ∃ (rs : List Nat) (ds' : List Int), rs.length ≤ 9 ∧ (∀ a ∈ rs, a < S.deeds.length) ∧ (bh S S.starts (zI rs)).isSome = true ∧ callB B__law_run [.ref d, toldD S, .int 9] h = .ok (.v (wD rs)) (h.set d (iL ds')) := by
  have main : ∃ dd h1, (∃ rs : List Nat, dd = wD rs ∧ rs.length ≤ 9 ∧ (∀ a ∈ rs, a < S.deeds.length) ∧ (bh S S.starts (zI rs)).isSome = true ∧ Dq h d h1) ∧ callB B__law_run [.ref d, toldD S, .int 9] h = .ok (.v dd) (h1.take h.length) := by
    refine call_x ?_
    have dlt : d < h.length := lt_of_get hd
    unfold B__law_run body S__law_run
    show W (sSeq _ _ ⟨h.length, [some (.ref d), some (toldD S), some (.int 9), none, none, none, none, none]⟩ h) _
    have i0 : ∀ H, fIx (toldD S) (.int 1) H = .ok (.v (wD S.starts)) H := fun H => fIx_q (k := 1) rfl rfl rfl
    refine W_step (s' := [some (.ref d), some (toldD S), some (.int 9), some (wD []), some (wD S.starts), none, none, none]) (h' := h) (by simp [i0, sz 0]) ?_
    obtain ⟨r, H1, hr, e1, D1, l1, k1⟩ := Dq_draw (Dq.refl hd) (n := 9) (by decide)
    have e1' : callB B__law_take [.ref d, .int 9] h = .ok (.v (nD r)) H1 := e1
    refine W_stepW (P := fun r' => ∃ s H, r' = .next s H ∧ RuI S h d r s H) ?_ ?_
    · simp [e1', r62 (show r ≤ 1000000 by omega)]
      refine W_range _ (RuI S h d) ⟨[], S.starts, D1, l1, Nat.le_refl _, O.st, rfl, (fun x hx => by cases hx), rfl⟩ ?_ (fun s H i => ⟨_, _, rfl, i⟩)
      rintro k s H hk ⟨rs, st, D, hl, len, C, e, mem, rfl⟩
      refine ⟨_, _, rfl, ?_⟩
      have cp := law_possible_eq O C H
      have pl : (ps S st).length ≤ 10 := Nat.le_trans (List.length_filter_le _ _) (by simpa using O.dl)
      refine W_step (s' := [some (.ref d), some (toldD S), some (.int 9), some (wD rs), some (wD st), some (nD k), some (.lst ((ps S st).map nD)), none]) (h' := H) (by simp [cp]) ?_
      by_cases z : 0 < (ps S st).length
      · obtain ⟨c, H2, hc, e2, D2, l2, k2⟩ := Dq_draw D (n := (ps S st).length) z
        have ix : ∀ H, fIx (.lst ((ps S st).map nD)) (nD c) H = .ok (.v (nD (ps S st)[c])) H := fun H => fIx_q (ds := (ps S st).map nD) rfl rfl (by rw [List.getElem?_map, List.getElem?_eq_getElem hc]; rfl)
        have hm : (ps S st)[c] ∈ ps S st := List.getElem_mem hc
        have cm := law_moved_eq O C (ps_lt hm) H2
        generalize (ps S st)[c] = a at *
        have zi : (0 : Int) < ((ps S st).length : Int) := by omega
        have s1 : (1 : Nat) ≤ sizeLine := by decide
        have hlr : rs.length + 1 ≤ sizeLine := sz _ (by omega)
        simp only [sIf_eq, sE_eq, eTB_eq, e2_eq, ed_eq, eA_eq, aCons_eq, aNil_eq, eVar_eq, List.getElem?_cons_succ, List.getElem?_cons_zero, Res.bind_ok, fLen_lst, List.length_map, eC_eq, fGt_ii, zi, decide_true, if_true]
        simp [e2, ix, cm, s1, hlr]
        refine ⟨rs ++ [a], mvd S st a, D2, by omega, by simp; omega, C.moved O (ps_lt hm), ?_, ?_, by simp⟩
        · have : zI (rs ++ [a]) = zI rs ++ [(a : Int)] := by simp [zI]
          rw [this, bh_snoc, e]
          have hp : inP (ps S st) (a : Int) = true := inP_iff.mpr ⟨a, hm, rfl⟩
          simp [hp]
        · intro x hx
          rcases List.mem_append.mp hx with q | q
          · exact mem x q
          · rw [List.mem_singleton.mp q]; exact ps_lt hm
      · have zi : ¬ ((0 : Int) < ((ps S st).length : Int)) := by omega
        simp only [sIf_eq, sE_eq, eTB_eq, e2_eq, ed_eq, eA_eq, aCons_eq, aNil_eq, eVar_eq, List.getElem?_cons_succ, List.getElem?_cons_zero, Res.bind_ok, fLen_lst, List.length_map, eC_eq, fGt_ii, zi, decide_false]
        simp
        exact ⟨rs, st, D, hl, by omega, C, e, mem, rfl⟩
    · rintro _ ⟨s, H, rfl, rs, st, D, hl, len, C, e, mem, rfl⟩
      refine ⟨_, _, rfl, ?_⟩
      simp
      exact ⟨wD rs, H, rfl, nrf_wD _, rs, rfl, by omega, mem, by rw [e]; rfl, D⟩
  obtain ⟨dd, h1, ⟨rs, rfl, g1, g2, g3, D⟩, c⟩ := main
  obtain ⟨ds', e⟩ := D.cut
  exact ⟨rs, ds', g1, g2, g3, by rw [c, e]⟩
end K73
set_option Elab.async false
set_option linter.all false
set_option maxRecDepth 100000
set_option maxHeartbeats 4000000
/-! the law. -/
namespace K73
open PySem PySem.Spec L2 Z
noncomputable def LP_0 : ST := (sSet 3 (ed (eCall 5 B__law_system (aCons (eVar 1) (aCons (eC (.int 4)) (aCons (eC (.int 4)) (aCons (eC (.int 10)) (aCons (eC (.int 4)) aNil))))))))
noncomputable def LP_1 : ST := (sSet 4 (ed (eCall 1 B__law_made (aCons (eVar 3) aNil))))
noncomputable def LP_2 : ST := (sIf (bOr (bNot (eT (ed (eCall 2 (B__law_same 8) (aCons (eTup (aCons (ed (e1 (fFld [0] 0) (eVar 4))) (aCons (ed (e1 (fFld [0] 1) (eVar 4))) (aCons (ed (e1 (fFld [0] 2) (eVar 4))) aNil)))) (aCons (eVar 3) aNil)))))) (bNot (eT (ed (eCall 1 B__law_faults_right (aCons (eVar 1) aNil)))))) (sRet (ev (eC (.bl false)))) sPass)
noncomputable def LP_3 : ST := (sSet 5 (ed (eCall 2 B__law_arising (aCons (eVar 3) (aCons (eC (.int 700)) aNil)))))
noncomputable def LP_4 : ST := (sIf (bOr (bNot (eT (ed (eCall 2 (B__law_same 8) (aCons (ed (eCall 1 B_arising (aCons (eVar 4) aNil))) (aCons (eVar 5) aNil)))))) (bNot (eT (ed (eCall 2 (B__law_same 8) (aCons (ed (eCall 1 B_stuck (aCons (eVar 4) aNil))) (aCons (ed (eComp (iSeq (eVar 5)) (tN 6) (eTB (e2 fEq (ed (eA fLen (aCons (ed (eCall 2 B__law_possible (aCons (eVar 3) (aCons (eVar 6) aNil)))) aNil))) (eC (.int 0)))) (eVar 6) [6])) aNil))))))) (sRet (ev (eC (.bl false)))) sPass)
noncomputable def LP_5 : ST := (sSet 6 (ed (e2 fIx (eVar 5) (ed (eCall 2 B__law_take (aCons (eVar 1) (aCons (ed (eA fLen (aCons (eVar 5) aNil))) aNil)))))))
noncomputable def LP_6 : ST := (sSet 7 (ed (eCall 2 B__law_possible (aCons (eVar 3) (aCons (eVar 6) aNil)))))
noncomputable def LP_7 : ST := (sIf (bNot (eT (ed (eCall 2 (B__law_same 8) (aCons (ed (eCall 2 B_possible (aCons (eVar 4) (aCons (eVar 6) aNil)))) (aCons (eVar 7) aNil)))))) (sRet (ev (eC (.bl false)))) sPass)
noncomputable def LP_8 : ST := (sFor (iSeq (eVar 7)) (tN 8) (sIf (bNot (eT (ed (eCall 2 (B__law_same 8) (aCons (ed (eCall 3 B_moved (aCons (eVar 4) (aCons (eVar 6) (aCons (eVar 8) aNil))))) (aCons (ed (eCall 3 B__law_moved (aCons (eVar 3) (aCons (eVar 6) (aCons (eVar 8) aNil))))) aNil)))))) (sRet (ev (eC (.bl false)))) sPass) [8])
noncomputable def LP_9 : ST := (sSet 9 (ed (eCall 3 B__law_run (aCons (eVar 1) (aCons (eVar 3) (aCons (eC (.int 9)) aNil))))))
noncomputable def LP_10 : ST := (sIf (bOr (eTB (e2 fNotIsB (ed (eCall 2 B_is_run (aCons (eVar 4) (aCons (eVar 9) aNil)))) (eC (.bl true)))) (bNot (eT (ed (eCall 2 (B__law_same 8) (aCons (ed (eCall 2 B_below (aCons (eVar 4) (aCons (eVar 9) aNil)))) (aCons (ed (eCall 2 B__law_lower (aCons (eVar 3) (aCons (eVar 9) aNil)))) aNil))))))) (sRet (ev (eC (.bl false)))) sPass)
noncomputable def LP_11 : ST := (sFor (iR1 (aCons (eC (.int 3)) aNil)) (tN 10) (sSeq (sSet 11 (ed (eCall 2 B__law_take (aCons (eVar 1) (aCons (ed (e2 fAdd (ed (eA fLen (aCons (eVar 9) aNil))) (eC (.int 1)))) aNil))))) (sSeq (sSet 12 (ed (e2 fAdd (ed (e2 fAdd (ed (eSl (eVar 9) oNone (oSome (eVar 11)))) (eTup (aCons (ed (e2 fSub (ed (eCall 2 B__law_take (aCons (eVar 1) (aCons (eC (.int 12)) aNil)))) (eC (.int 1)))) aNil)))) (ed (eSl (eVar 9) (oSome (ed (e2 fAdd (eVar 11) (ed (eCall 2 B__law_take (aCons (eVar 1) (aCons (eC (.int 2)) aNil))))))) oNone))))) (sIf (bNot (eT (ed (eCall 2 (B__law_same 8) (aCons (ed (eCall 2 B_is_run (aCons (eVar 4) (aCons (eVar 12) aNil)))) (aCons (ed (eCall 2 B__law_is_run (aCons (eVar 3) (aCons (eVar 12) aNil)))) aNil)))))) (sRet (ev (eC (.bl false)))) sPass))) [10, 11, 12])
theorem cut_any {xs : List Z.D} {i : Int} {k : Nat} (e : i = (k : Int)) : cutD xs (some i) none = xs.drop k := by
  by_cases h : k ≤ xs.length
  · exact cut_lo e h
  · subst e
    unfold cutD
    rw [HT.sIx_none, HT.sIx_nat, Nat.min_eq_right (by omega)]
    simp
    omega
theorem pln_mvs {k : Nat} {ms : List Mv} (hl : ms.length ≤ 100000) : pln (k + 3) (.tup (ms.map mvD)) = true := pln_tup (by simpa using hl) fun d hd => by
  obtain ⟨m, _, rfl⟩ := List.mem_map.mp hd
  exact pln_tup (by simp) fun d hd => by
    simp only [List.mem_cons, List.not_mem_nil, or_false] at hd
    rcases hd with rfl | rfl | rfl <;> rfl
theorem pln_told {S : Sy} (O : SyOk S) : pln 8 (toldD S) = true := by
  have n4 := O.n4
  have sl := O.st.len
  have dl := O.dl
  refine pln_tup (by simp) fun d hd => ?_
  simp only [List.mem_cons, List.not_mem_nil, or_false] at hd
  rcases hd with rfl | rfl | rfl
  · exact pln_wD (by omega)
  · exact pln_wD (by omega)
  · refine pln_tup (by simp; omega) fun d hd => ?_
    obtain ⟨x, hx, rfl⟩ := List.mem_map.mp hd
    have few := (O.dd x hx).few
    refine pln_tup (by simp) fun d hd => ?_
    simp only [List.mem_cons, List.not_mem_nil, or_false] at hd
    rcases hd with rfl | rfl
    · rfl
    · exact pln_mvs (by omega)
theorem pln_wl {k : Nat} {o : List (List Nat)} (hl : o.length ≤ 1000) (h : ∀ w ∈ o, w.length ≤ 1000) : pln (k + 3) (.lst (o.map wD)) = true := pln_lst (by simp; omega) fun d hd => by
  obtain ⟨w, hw, rfl⟩ := List.mem_map.mp hd
  exact pln_wD (by have := h w hw; omega)
abbrev LS (ns : List Int) (S : Sy) (v2 v5 v6 v7 v8 v9 v10 v11 v12 : Option Z.D) : Sl := [some (.ro ns), some (.ref 0), v2, some (toldD S), some (sysD S), v5, v6, v7, v8, v9, v10, v11, v12]
theorem lp2_ok {ns ds : List Int} {S : Sy} (O : SyOk S) {v2 v5 v6 v7 v8 v9 v10 v11 v12 : Option Z.D} {H : Own} (hd : Dr H 0 ds) : ∃ ds', LP_2 ⟨0, LS ns S v2 v5 v6 v7 v8 v9 v10 v11 v12⟩ H = .next (LS ns S v2 v5 v6 v7 v8 v9 v10 v11 v12) (H.set 0 (iL ds')) := by
  obtain ⟨ds', e⟩ := faults_eq hd
  refine ⟨ds', ?_⟩
  have c := same_pl 8 _ (pln_told O) H
  have s3 : (3 : Nat) ≤ sizeLine := by decide
  unfold toldD at c
  unfold LP_2
  simp [LS, sysD, toldD, s3, c, e]
theorem lp4_ok {ns : List Int} {S : Sy} (O : SyOk S) {v2 v6 v7 v8 v9 v10 v11 v12 : Option Z.D} {H : Own} : LP_4 ⟨0, LS ns S v2 (some (.lst ((ar S).map wD))) v6 v7 v8 v9 v10 v11 v12⟩ H = .next (LS ns S v2 (some (.lst ((ar S).map wD))) v6 v7 v8 v9 v10 v11 v12) H := by
  have ok := ar_ok O
  have few := few_cmb O ok.nd ok.cm
  have n4 := O.n4
  have wl : ∀ w ∈ ar S, w.length ≤ 1000 := fun w hw => by have := (ok.cm w hw).len; omega
  have c1 := same_pl 8 _ (pln_wl (k := 5) (by omega) wl) H
  have c2 := same_pl 8 _ (pln_wl (k := 5) (o := stk S) (Nat.le_trans (List.length_filter_le _ _) (by omega)) fun w hw => wl w (List.mem_filter.mp hw).1) H
  have cm : compGo none (tN 6) (eTB (e2 fEq (ed (eA fLen (aCons (ed (eCall 2 B__law_possible (aCons (eVar 3) (aCons (eVar 6) aNil)))) aNil))) (eC (.int 0)))) (eVar 6) 0 (LS ns S v2 (some (.lst ((ar S).map wD))) none v7 v8 v9 v10 v11 v12) ((ar S).map wD) H [] = .ok (.n (.lst ((stk S).map wD))) H := by
    rw [comp_pure wD (fun st => (ps S st).isEmpty) wD (by simp) (ar S) []]
    · rfl
    · intro st hst
      have cp := law_possible_eq O (ok.cm st hst) H
      refine ⟨_, rfl, ?_, fun _ => by simp⟩
      simp [cp]
      cases ps S st <;> simp
    · exact sz _ (by simp; omega)
  unfold LP_4
  simp [arising_eq O, stuck_eq O, c1, c2, cm]
theorem lp8_ok {ns : List Int} {S : Sy} (O : SyOk S) {st : List Nat} (C : Cmb S.sizes st) {v2 v5 v8 v9 v10 v11 v12 : Option Z.D} {H : Own} : W (LP_8 ⟨0, LS ns S v2 v5 (some (wD st)) (some (.lst ((ps S st).map nD))) v8 v9 v10 v11 v12⟩ H) fun r => ∃ v8', r = .next (LS ns S v2 v5 (some (wD st)) (some (.lst ((ps S st).map nD))) v8' v9 v10 v11 v12) H := by
  unfold LP_8
  simp
  refine W_list nD (ps S st) (fun _ s H' => (∃ v8', s = LS ns S v2 v5 (some (wD st)) (some (.lst ((ps S st).map nD))) v8' v9 v10 v11 v12) ∧ H' = H) ⟨⟨v8, rfl⟩, rfl⟩ (fun _ _ _ _ _ => by simp) ?_ ?_
  · rintro k s H' hk ⟨⟨v8', rfl⟩, rfl⟩
    refine ⟨_, _, rfl, ?_⟩
    have ha : (ps S st)[k] < S.deeds.length := ps_lt (List.getElem_mem hk)
    generalize (ps S st)[k] = a at *
    have c1 := moved_eq O C ha H'
    have c2 := law_moved_eq O C ha H'
    have n4 := O.n4
    have ml := (C.moved O ha).len
    have c3 := same_pl 8 _ (pln_wD (k := 6) (w := mvd S st a) (by omega)) H'
    simp [c1, c2, c3]
  · rintro s H' ⟨⟨v8', rfl⟩, rfl⟩
    exact ⟨v8', rfl⟩
inductive BeI (ns : List Int) (S : Sy) (v2 v5 v6 v7 v8 : Option Z.D) (rs : List Nat) (k : Nat) (s : Sl) (H : Own) : Prop
  | mk (ds : List Int) (y10 : Option Z.D) (hs : s = LS ns S v2 v5 v6 v7 v8 (some (wD rs)) y10 none none) (hd : Dr H 0 ds)
theorem lp11_ok {ns ds : List Int} {S : Sy} (O : SyOk S) {rs : List Nat} (hl : rs.length ≤ 9) {v2 v5 v6 v7 v8 : Option Z.D} {H : Own} (hd : Dr H 0 ds) : W (LP_11 ⟨0, LS ns S v2 v5 v6 v7 v8 (some (wD rs)) none none none⟩ H) fun r => ∃ s H', r = .next s H' ∧ BeI ns S v2 v5 v6 v7 v8 rs 3 s H' := by
  unfold LP_11
  simp [show R62 (3 : Int) from r62 (n := 3) (by decide)]
  refine W_range 3 (BeI ns S v2 v5 v6 v7 v8 rs) ⟨ds, none, rfl, hd⟩ ?_ (fun s H i => ⟨_, _, rfl, i⟩)
  rintro k s H hk ⟨ds, y10, rfl, hd⟩
  refine ⟨_, _, rfl, ?_⟩
  obtain ⟨a, ds1, ha, e1⟩ := take_eq hd (n := rs.length + 1) (by omega)
  have e1' : callB B__law_take [.ref 0, .int ((rs.length : Int) + 1)] H = .ok (.v (nD a)) (H.set 0 (iL ds1)) := e1
  have hd1 : Dr (H.set 0 (iL ds1)) 0 ds1 := hd.set
  refine W_step (s' := LS ns S v2 v5 v6 v7 v8 (some (wD rs)) (some (nD k)) (some (nD a)) none) (h' := H.set 0 (iL ds1)) (by simp [e1']) ?_
  generalize H.set 0 (iL ds1) = H1 at *
  obtain ⟨b, ds2, hb, e2⟩ := take_eq hd1 (n := 12) (by decide)
  have e2' : callB B__law_take [.ref 0, .int 12] H1 = .ok (.v (nD b)) (H1.set 0 (iL ds2)) := e2
  have hd2 : Dr (H1.set 0 (iL ds2)) 0 ds2 := hd1.set
  generalize H1.set 0 (iL ds2) = H2 at *
  obtain ⟨c, ds3, hc, e3⟩ := take_eq hd2 (n := 2) (by decide)
  have e3' : callB B__law_take [.ref 0, .int 2] H2 = .ok (.v (nD c)) (H2.set 0 (iL ds3)) := e3
  have hd3 : Dr (H2.set 0 (iL ds3)) 0 ds3 := hd2.set
  generalize H2.set 0 (iL ds3) = H3 at *
  have cu1 : cutD (rs.map nD) none (some (a : Int)) = (rs.map nD).take a := cut_hi (k := a) rfl (by simp; omega)
  have cu2 : cutD (rs.map nD) (some ((a : Int) + (c : Int))) none = (rs.map nD).drop (a + c) := cut_any (k := a + c) (by omega)
  have bD : (rs.map nD).take a ++ (.int ((b : Int) - 1) :: (rs.map nD).drop (a + c)) = ((zI rs).take a ++ (((b : Int) - 1) :: (zI rs).drop (a + c))).map Z.D.int := by
    rw [nDs_z]
    simp
  have s1 : (1 : Nat) ≤ sizeLine := by decide
  have sl1 : min a rs.length + 1 ≤ sizeLine := sz _ (by omega)
  have sl2 : min a rs.length + (1 + (rs.length - (a + c))) ≤ sizeLine := sz _ (by omega)
  have sl3 : min a rs.length + 1 + (rs.length - (a + c)) ≤ sizeLine := sz _ (by omega)
  refine W_step (s' := LS ns S v2 v5 v6 v7 v8 (some (wD rs)) (some (nD k)) (some (nD a)) (some (rD ((zI rs).take a ++ (((b : Int) - 1) :: (zI rs).drop (a + c)))))) (h' := H3) ?_ ?_
  · simp [e2', e3', cu1, cu2, s1, sl1, sl2, sl3]
    rw [nDs_z]
  generalize (zI rs).take a ++ (((b : Int) - 1) :: (zI rs).drop (a + c)) = bent
  have r1 := is_run_eq O (run := bent) H3
  have r2 := law_is_run_eq O (run := bent) H3
  have c1 := same_pl 8 (.bl (bh S S.starts bent).isSome) rfl H3
  simp [r1, r2, c1]
  exact ⟨ds3, _, rfl, hd3⟩
end K73
set_option Elab.async false
set_option linter.all false
set_option maxRecDepth 100000
set_option maxHeartbeats 4000000
/-! the law. -/
namespace K73
open PySem PySem.Spec L2 Z
/-- between two turns -/
inductive TI (ns : List Int) (s : Sl) (H : Own) : Prop
  | mk (ds : List Int) (y2 y6 : Option Z.D) (hs : s = [some (.ro ns), some (.ref 0), y2, none, none, none, y6, none, none, none, none, none, none]) (hd : Dr H 0 ds)
abbrev clT : List Nat := [2, 3, 4, 5, 7, 8, 9, 10, 11, 12]
theorem turn_ok {ns ds : List Int} {y2 y6 : Option Z.D} {H : Own} {Q : SRes → Prop} (hd : Dr H 0 ds) :
    W (sSeq LP_0 (sSeq LP_1 (sSeq LP_2 (sSeq LP_3 (sSeq LP_4 (sSeq LP_5 (sSeq LP_6 (sSeq LP_7 (sSeq LP_8 (sSeq LP_9 (sSeq LP_10 LP_11)))))))))) ⟨0, [some (.ro ns), some (.ref 0), y2, none, none, none, y6, none, none, none, none, none, none]⟩ H) (Turn clT (TI ns) Q) := by
  obtain ⟨S, ds1, O, c0⟩ := law_system_eq hd
  refine W_step (s' := [some (.ro ns), some (.ref 0), y2, some (toldD S), none, none, y6, none, none, none, none, none, none]) (h' := H.set 0 (iL ds1)) ?_ ?_
  · unfold LP_0
    simp [c0]
  have hd1 : Dr (H.set 0 (iL ds1)) 0 ds1 := hd.set
  generalize H.set 0 (iL ds1) = H1 at *
  have c1 := law_made_eq O H1
  refine W_step (s' := LS ns S y2 none y6 none none none none none none) (h' := H1) ?_ ?_
  · unfold LP_1
    simp [c1]
    rfl
  obtain ⟨ds2, e2⟩ := lp2_ok (ns := ns) O (v2 := y2) (v5 := none) (v6 := y6) (v7 := none) (v8 := none) (v9 := none) (v10 := none) (v11 := none) (v12 := none) hd1
  refine W_step e2 ?_
  have hd2 : Dr (H1.set 0 (iL ds2)) 0 ds2 := hd1.set
  generalize H1.set 0 (iL ds2) = H2 at *
  have c3 : callB B__law_arising [toldD S, .int 700] H2 = .ok (.n (.lst ((ar S).map wD))) H2 := law_arising_eq O H2
  refine W_step (s' := LS ns S y2 (some (.lst ((ar S).map wD))) y6 none none none none none none) (h' := H2) ?_ ?_
  · unfold LP_3
    simp [c3]
  refine W_step (lp4_ok O) ?_
  have pos := ar_pos (S := S)
  obtain ⟨a, ds3, ha, e5⟩ := take_eq hd2 (n := (ar S).length) pos
  have hd3 : Dr (H2.set 0 (iL ds3)) 0 ds3 := hd2.set
  have ix : ∀ H, fIx (.lst ((ar S).map wD)) (nD a) H = .ok (.v (wD (ar S)[a])) H := fun H => fIx_q (ds := (ar S).map wD) rfl rfl (by rw [List.getElem?_map, List.getElem?_eq_getElem ha]; rfl)
  have C : Cmb S.sizes (ar S)[a] := (ar_ok O).cm _ (List.getElem_mem ha)
  generalize (ar S)[a] = st at *
  generalize H2.set 0 (iL ds3) = H3 at *
  refine W_step (s' := LS ns S y2 (some (.lst ((ar S).map wD))) (some (wD st)) none none none none none none) (h' := H3) ?_ ?_
  · unfold LP_5
    simp [e5, ix]
  have c6 := law_possible_eq O C H3
  refine W_step (s' := LS ns S y2 (some (.lst ((ar S).map wD))) (some (wD st)) (some (.lst ((ps S st).map nD))) none none none none none) (h' := H3) ?_ ?_
  · unfold LP_6
    simp [c6]
  have c7 := possible_eq O C H3
  have pl : (ps S st).length ≤ 10 := Nat.le_trans (List.length_filter_le _ _) (by simpa using O.dl)
  have p7 := same_pl 8 (.lst ((ps S st).map nD)) (pln_lst (by simp; omega) fun d hd => by
    obtain ⟨x, _, rfl⟩ := List.mem_map.mp hd
    rfl) H3
  refine W_step (s' := LS ns S y2 (some (.lst ((ar S).map wD))) (some (wD st)) (some (.lst ((ps S st).map nD))) none none none none none) (h' := H3) ?_ ?_
  · unfold LP_7
    simp [c7, p7]
  refine W_stepW (lp8_ok O C) ?_
  rintro _ ⟨v8, rfl⟩
  refine ⟨_, _, rfl, ?_⟩
  obtain ⟨rs, ds4, l9, mem, hr, c9⟩ := law_run_eq O hd3
  have hd4 : Dr (H3.set 0 (iL ds4)) 0 ds4 := hd3.set
  generalize H3.set 0 (iL ds4) = H4 at *
  refine W_step (s' := LS ns S y2 (some (.lst ((ar S).map wD))) (some (wD st)) (some (.lst ((ps S st).map nD))) v8 (some (wD rs)) none none none) (h' := H4) ?_ ?_
  · unfold LP_9
    simp [c9]
  have c10 := is_run_eq O (run := zI rs) H4
  have hrw : rD (zI rs) = wD rs := by unfold rD wD; rw [nDs_z]
  rw [hrw, hr] at c10
  have b10 := below_eq O mem (by omega) H4
  have l10 := law_lower_eq O mem (by omega) H4
  have F := fnd_ok (S := S) (rs := rs) rs.length
  have fl : (fnd S rs rs.length).length = rs.length := F.len
  have p10 := same_pl 8 _ (pln_wl (k := 5) (o := fnd S rs rs.length) (by omega) fun w hw => by
    obtain ⟨j, hj, rfl⟩ := List.mem_iff_getElem.mp hw
    have := (F.few j (by omega)).len
    unfold stAt at this
    rw [List.getD_eq_getElem?_getD, List.getElem?_eq_getElem hj] at this
    simp at this
    omega) H4
  refine W_step (s' := LS ns S y2 (some (.lst ((ar S).map wD))) (some (wD st)) (some (.lst ((ps S st).map nD))) v8 (some (wD rs)) none none none) (h' := H4) ?_ ?_
  · unfold LP_10
    have nb : ∀ H, fNotIsB (.bl true) (.bl true) H = .ok (.v (.bl false)) H := fun _ => rfl
    simp [c10, b10, l10, p10, nb]
  refine W_imp (lp11_ok O l9 hd4) ?_
  rintro _ ⟨s, H5, rfl, ds5, y10, rfl, hd5⟩
  show TI ns _ _
  exact ⟨ds5, _, _, rfl, hd5⟩
theorem law_true (ns : List Int) (hn : ns.length ≤ 63) : ∃ h, B_law 0 [.ro ns] [] = .ret (.v (.bl true)) h := by
  obtain ⟨ds, c⟩ := law_draws_eq 200 (by decide) hn []
  have c' : callB B__law_draws [.ro ns, .int 200] [] = .ok (.n (iL ds)) [] := c
  have key : W (B_law 0 [.ro ns] []) fun r => ∃ h, r = .ret (.v (.bl true)) h := by
    show W (sSeq (sSet 1 (eAl (eCall 2 B__law_draws (aCons (eVar 0) (aCons (eC (.int 200)) aNil))))) (sSeq (sFor (iR1 (aCons (eC (.int 3)) aNil)) (tN 2) (sSeq LP_0 (sSeq LP_1 (sSeq LP_2 (sSeq LP_3 (sSeq LP_4 (sSeq LP_5 (sSeq LP_6 (sSeq LP_7 (sSeq LP_8 (sSeq LP_9 (sSeq LP_10 LP_11))))))))))) clT) (sRet (ev (eC (.bl true)))))
      ⟨0, [some (.ro ns), none, none, none, none, none, none, none, none, none, none, none, none]⟩ []) _
    refine W_step (s' := [some (.ro ns), some (.ref 0), none, none, none, none, none, none, none, none, none, none, none]) (h' := [iL ds]) ?_ ?_
    · simp [c']
    refine W_stepW (P := fun r => ∃ s h, r = .next s h) ?_ ?_
    · simp [show R62 (3 : Int) from r62 (n := 3) (by decide)]
      refine W_range 3 (fun _ => TI ns) ⟨ds, none, none, rfl, rfl⟩ ?_ (fun s h i => ⟨_, _, rfl⟩)
      rintro k s H hk ⟨ds, y2, y6, rfl, hd⟩
      exact ⟨_, _, rfl, turn_ok hd⟩
    · rintro _ ⟨s, h, rfl⟩
      exact ⟨_, _, rfl, _, rfl⟩
  exact key
end K73
open PySem PySem.W PyProof.Rows
set_option maxRecDepth 100000 in
set_option maxHeartbeats 0 in
theorem PySem.Challenge.cw_tracetalk_k73_systems_holds : PySem.Challenge.rw_tracetalk_k73_systems.Holds := by
  w_on; o_law; k_head; (case hw => w_witness2)
  k_fill
  refine K73.walk (l := PySem.Challenge.rw_tracetalk_k73_systems) rfl rfl K73.law_true (fun w h Y => PySem.W.kIn_of Y) ?F
  case F =>
    intro w mg fa h KX G hmg
    refine' K73.all_mk KX G hmg ?aC_System ?pg_System ?hd_System ?po_System ?sa_System ?mk_System ?kc_System ?na_System_sizes ?na_System_starts ?na_System_actions ?aC_InvalidSystem ?ex_InvalidSystem ?kc_InvalidSystem ?sb_InvalidSystem ?ty_InvalidSystem ?ic_InvalidSystem ?sc_InvalidSystem ?a_is_action ?l_is_action ?c_is_action ?k_is_action ?a_places_of ?l_places_of ?c_places_of ?k_places_of ?a_possible ?l_possible ?c_possible ?k_possible ?a_moved ?l_moved ?c_moved ?k_moved ?a__law_draws ?l__law_draws ?c__law_draws ?k__law_draws ?a__law_take ?l__law_take ?c__law_take ?k__law_take ?a__law_possible ?l__law_possible ?c__law_possible ?k__law_possible ?a__law_moved ?l__law_moved ?c__law_moved ?k__law_moved ?a__law_places ?l__law_places ?c__law_places ?k__law_places ?a_System___init__ ?i_System___init__ ?l_System___init__ ?c_System___init__ ?k_System___init__ ?a_are_apart ?l_are_apart ?c_are_apart ?k_are_apart ?a_arising ?l_arising ?c_arising ?k_arising ?a_states_behind ?l_states_behind ?c_states_behind ?k_states_behind ?a__law_system ?l__law_system ?c__law_system ?k__law_system ?a__law_arising ?l__law_arising ?c__law_arising ?k__law_arising ?a__law_apart ?l__law_apart ?c__law_apart ?k__law_apart ?a__law_run ?l__law_run ?c__law_run ?k__law_run ?a__law_is_run ?l__law_is_run ?c__law_is_run ?k__law_is_run ?a_stuck ?l_stuck ?c_stuck ?k_stuck ?a_is_run ?l_is_run ?c_is_run ?k_is_run ?a_below ?l_below ?c_below ?k_below ?a__law_lower ?l__law_lower ?c__law_lower ?k__law_lower ?a__law_made ?l__law_made ?c__law_made ?k__law_made ?a__law_is_refused ?l__law_is_refused ?c__law_is_refused ?k__law_is_refused ?a__law_faults_right ?l__law_faults_right ?c__law_faults_right ?k__law_faults_right ?a__law_same ?l__law_same ?c__law_same ?k__law_same ?a_law ?l_law ?c_law ?k_law ?z_all ?z_any ?z_bool ?z_dict ?z_enumerate ?z_int ?z_isinstance ?z_len ?z_list ?z_range ?z_set ?z_sorted ?z_str ?z_tuple ?z_zip ?v_MOST_ACTIONS ?v_MOST_LABEL ?v_MOST_PLACES ?v_MOST_STATES
    (case aC_System => k_is)
    (case pg_System => k_is)
    (case hd_System => k_is)
    (case po_System => k_is)
    (case sa_System => k_is)
    (case mk_System => k_is)
    (case kc_System => k_is)
    (case na_System_sizes => k_is)
    (case na_System_starts => k_is)
    (case na_System_actions => k_is)
    (case aC_InvalidSystem => k_is)
    (case ex_InvalidSystem => k_exc)
    (case kc_InvalidSystem => k_is)
    (case sb_InvalidSystem => k_is)
    (case ty_InvalidSystem => k_is)
    (case ic_InvalidSystem => k_is)
    (case sc_InvalidSystem => k_is)
    (case a_is_action => k_is)
    (case l_is_action => k_is)
    (case c_is_action => k_is)
    (case k_is_action => k_is)
    (case a_places_of => k_is)
    (case l_places_of => k_is)
    (case c_places_of => k_is)
    (case k_places_of => k_is)
    (case a_possible => k_is)
    (case l_possible => k_is)
    (case c_possible => k_is)
    (case k_possible => k_is)
    (case a_moved => k_is)
    (case l_moved => k_is)
    (case c_moved => k_is)
    (case k_moved => k_is)
    (case a__law_draws => k_is)
    (case l__law_draws => k_is)
    (case c__law_draws => k_is)
    (case k__law_draws => k_is)
    (case a__law_take => k_is)
    (case l__law_take => k_is)
    (case c__law_take => k_is)
    (case k__law_take => k_is)
    (case a__law_possible => k_is)
    (case l__law_possible => k_is)
    (case c__law_possible => k_is)
    (case k__law_possible => k_is)
    (case a__law_moved => k_is)
    (case l__law_moved => k_is)
    (case c__law_moved => k_is)
    (case k__law_moved => k_is)
    (case a__law_places => k_is)
    (case l__law_places => k_is)
    (case c__law_places => k_is)
    (case k__law_places => k_is)
    (case a_System___init__ => k_is)
    (case i_System___init__ => k_is)
    (case l_System___init__ => k_is)
    (case c_System___init__ => k_is)
    (case k_System___init__ => k_is)
    (case a_are_apart => k_is)
    (case l_are_apart => k_is)
    (case c_are_apart => k_is)
    (case k_are_apart => k_is)
    (case a_arising => k_is)
    (case l_arising => k_is)
    (case c_arising => k_is)
    (case k_arising => k_is)
    (case a_states_behind => k_is)
    (case l_states_behind => k_is)
    (case c_states_behind => k_is)
    (case k_states_behind => k_is)
    (case a__law_system => k_is)
    (case l__law_system => k_is)
    (case c__law_system => k_is)
    (case k__law_system => k_is)
    (case a__law_arising => k_is)
    (case l__law_arising => k_is)
    (case c__law_arising => k_is)
    (case k__law_arising => k_is)
    (case a__law_apart => k_is)
    (case l__law_apart => k_is)
    (case c__law_apart => k_is)
    (case k__law_apart => k_is)
    (case a__law_run => k_is)
    (case l__law_run => k_is)
    (case c__law_run => k_is)
    (case k__law_run => k_is)
    (case a__law_is_run => k_is)
    (case l__law_is_run => k_is)
    (case c__law_is_run => k_is)
    (case k__law_is_run => k_is)
    (case a_stuck => k_is)
    (case l_stuck => k_is)
    (case c_stuck => k_is)
    (case k_stuck => k_is)
    (case a_is_run => k_is)
    (case l_is_run => k_is)
    (case c_is_run => k_is)
    (case k_is_run => k_is)
    (case a_below => k_is)
    (case l_below => k_is)
    (case c_below => k_is)
    (case k_below => k_is)
    (case a__law_lower => k_is)
    (case l__law_lower => k_is)
    (case c__law_lower => k_is)
    (case k__law_lower => k_is)
    (case a__law_made => k_is)
    (case l__law_made => k_is)
    (case c__law_made => k_is)
    (case k__law_made => k_is)
    (case a__law_is_refused => k_is)
    (case l__law_is_refused => k_is)
    (case c__law_is_refused => k_is)
    (case k__law_is_refused => k_is)
    (case a__law_faults_right => k_is)
    (case l__law_faults_right => k_is)
    (case c__law_faults_right => k_is)
    (case k__law_faults_right => k_is)
    (case a__law_same => k_is)
    (case l__law_same => k_is)
    (case c__law_same => k_is)
    (case k__law_same => k_is)
    (case a_law => k_is)
    (case l_law => k_is)
    (case c_law => k_is)
    (case k_law => k_is)
    (case z_all => k_is)
    (case z_any => k_is)
    (case z_bool => k_is)
    (case z_dict => k_is)
    (case z_enumerate => k_is)
    (case z_int => k_is)
    (case z_isinstance => k_is)
    (case z_len => k_is)
    (case z_list => k_is)
    (case z_range => k_is)
    (case z_set => k_is)
    (case z_sorted => k_is)
    (case z_str => k_is)
    (case z_tuple => k_is)
    (case z_zip => k_is)
    (case v_MOST_ACTIONS => k_is)
    (case v_MOST_LABEL => k_is)
    (case v_MOST_PLACES => k_is)
    (case v_MOST_STATES => k_is)
