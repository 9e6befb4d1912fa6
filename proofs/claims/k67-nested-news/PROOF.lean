import PyProof.Rows.All
import Wide.All
import OpenK.AllK
import Wide.FinOn
import HandS.ForMost
import HandS.ForExc
import HandS.Lambda
import HandS.EndTab
import KE.KeyNested
import HandS.TupAny
import HandS.Flow
import HandS.Deep
import HandS.CallSlots
import HandS.Style
import HandS.More
import HandS.SortInts
import HandS.SortRule
import HandS.IsInst
import HandS.Conv
import KE.OsArith
import KE.BitLaws
import KE.GoesEnum
import HandS.SetFor
import HandS.Strs
import HandS.DictComp
import HandS.TryMany
import HandS.Keys
import HandS.TupLe
import PyProof.P3Eq
import HandS.TupMul
import PySem.Challenge.RW_tracetalk_k67_nested_news
set_option Elab.async false
set_option linter.all false
set_option maxRecDepth 100000
/-! N1: dicts whose keys are tuples of any depth, as a thing of one's own. -/
namespace Z
open PySem PySem.Spec L2
abbrev NX := NestedKey × Addr × V
abbrev NY := NestedKey × Addr × Value
def NRel (x : NX) (y : NY) : Prop := x.1 = y.1 ∧ x.2.1 = y.2.1 ∧ RelV x.2.2 y.2.2
def NDict (P : Program) (w : World) (a : Addr) (xs : List NX) : HO := .ext fun h => xs.length ≤ sizeLine ∧ (a == sysModules) = false ∧ (xs.map (·.1)).Nodup ∧
  ∃ ys : List NY, Paired NRel xs ys ∧ ∃ o es ep, h.get? a = some o ∧ o.ExactDict ∧ o.data = .dict es ep ∧ es.toList = ys.map (entryOfKey (nestedKind P w))
mutual
/-- a value that is such a key -/
inductive NK (H : Hp) : NestedKey → V → Prop
  | non : NK H .none .non
  | bl (b : Bool) : NK H (.num (if b = true then 1 else 0)) (.bl b)
  | int (i : Int) : NK H (.num i) (.int i)
  | str (x : Str) : NK H (.text x) (.str x)
  | tup {a : Addr} {ks : List NestedKey} {vs : List V} (e : H a = some (.tup vs)) (r : NKs H ks vs) : NK H (.tup ks) (.ref a)
inductive NKs (H : Hp) : List NestedKey → List V → Prop
  | nil : NKs H [] []
  | cons {k : NestedKey} {v : V} {ks : List NestedKey} {vs : List V} (h : NK H k v) (t : NKs H ks vs) : NKs H (k :: ks) (v :: vs)
end
section
variable {P : Program} {w : World} {H H' : Hp} {h h' : Heap}
mutual
theorem NK.is (ok : HOk P w H h) : ∀ {k : NestedKey} {v : V} {u : Value}, NK H k v → RelV v u → NestedIs h k u
  | _, _, _, .non, r => by rw [show _ = Value.none from r]; exact .none
  | _, _, _, .bl b, r => by rw [show _ = Value.bool b from r]; exact .bool rfl
  | _, _, _, .int i, r => by obtain ⟨t, e⟩ := (show ∃ t, _ = Value.int i t from r); rw [e]; exact .int i t
  | _, _, _, .str x, r => by obtain ⟨t, e⟩ := (show ∃ t, _ = Value.str x t from r); rw [e]; exact .text x t
  | _, _, _, .tup (a := a) e q, r => by
    rw [show _ = Value.ref a from r]
    obtain ⟨_, its, rv, ob, ho, hc, n, hd⟩ := (show ObjOk P w H h a (.tup _) from ok a _ e)
    exact .tup ho hc hd (NKs.is ok q (by simpa using rv))
theorem NKs.is (ok : HOk P w H h) : ∀ {ks : List NestedKey} {vs : List V} {us : List Value}, NKs H ks vs → Vals vs us → NestedAll h ks us
  | _, _, _, .nil, r => by cases r; exact .nil
  | _, _, _, .cons h t, r => by
    cases r with
    | cons r1 r2 => exact .cons (NK.is ok h r1) (NKs.is ok t r2)
end
mutual
theorem NK.mono (hs : ∀ a vs, H a = some (.tup vs) → H' a = some (.tup vs)) : ∀ {k : NestedKey} {v : V}, NK H k v → NK H' k v
  | _, _, .non => .non
  | _, _, .bl b => .bl b
  | _, _, .int i => .int i
  | _, _, .str x => .str x
  | _, _, .tup e q => .tup (hs _ _ e) (NKs.mono hs q)
theorem NKs.mono (hs : ∀ a vs, H a = some (.tup vs) → H' a = some (.tup vs)) : ∀ {ks : List NestedKey} {vs : List V}, NKs H ks vs → NKs H' ks vs
  | _, _, .nil => .nil
  | _, _, .cons h t => .cons (NK.mono hs h) (NKs.mono hs t)
end
end
/-- what stands under a key -/
def nval (xs : List NX) (k : NestedKey) : Option V := (xs.find? fun x => decide (x.1 = k)).map fun x => x.2.2
def nput (xs : List NX) (k : NestedKey) (a : Addr) (v : V) : List NX := if (nval xs k).isSome then xs.map (fun x => if x.1 = k then (x.1, x.2.1, v) else x) else xs ++ [(k, a, v)]
def NKey (H : Hp) (xs : List NX) : Prop := ∀ x ∈ xs, NK H x.1 (.ref x.2.1) ∧ x.1.depth ≤ 8
theorem nrel_val : ∀ {xs : List NX} {ys : List NY} (k : NestedKey), Paired NRel xs ys → RelO (nval xs k) ((atKey ys k).map (·.2))
  | _, _, _, .nil => True.intro
  | _, _, k, .cons (a := x) (b := y) (l₁ := xs) (l₂ := ys) r t => by
    have ih := nrel_val k t
    unfold nval atKey at ih ⊢
    rw [List.find?_cons, List.find?_cons]
    by_cases e : x.1 = k
    · have e' : y.1 = k := r.1.symm.trans e
      simp only [e, e', decide_true]
      exact r.2.2
    · have e' : ¬ y.1 = k := fun z => e (r.1.trans z)
      simp only [e, e', decide_false]
      exact ih
theorem nrel_put {k : NestedKey} {a : Addr} {v : V} {u : Value} {xs : List NX} {ys : List NY} (r : Paired NRel xs ys) (rv : RelV v u) : Paired NRel (nput xs k a v) (storedH ys k a u) := by
  have hv := nrel_val k r
  have e : (nval xs k).isSome = (atKey ys k).isSome := by
    cases h1 : nval xs k <;> cases h2 : atKey ys k <;> rw [h1, h2] at hv
    · rfl
    · exact hv.elim
    · exact hv.elim
    · rfl
  unfold nput storedH
  rw [e]
  split
  · rename_i hs
    clear hs e hv
    induction r with
    | nil => exact .nil
    | @cons x y xs' ys' h t ih =>
      refine .cons ?_ ih
      unfold putAt
      dsimp only
      by_cases z : x.1 = k
      · rw [if_pos z, if_pos (h.1.symm.trans z)]
        exact ⟨h.1, h.2.1, rv⟩
      · rw [if_neg z, if_neg (fun y => z (h.1.trans y))]
        exact h
  · exact r.snoc ⟨rfl, rfl, rv⟩
theorem nroom {P : Program} {w : World} {A : Around} (hu : A.units + 9 < cLine) : (nestedKind P w).room A.in1 := by
  unfold nestedKind
  show A.units + 1 + 8 < cLine
  omega
section
variable {X : Cx} {pins : List (Addr × Obj)} {σ : L2.St} {H : Hp} {s : Shared} {a b : Addr} {xs : List NX} {k : NestedKey} {A : Around} {E : Value → Shared → Prop}
theorem nd_of {P : Program} {w : World} {h : Heap} (ok : HOk P w H h) (e : H a = some (NDict P w a xs)) (ks : NKey H xs) : xs.length ≤ sizeLine ∧ (a == sysModules) = false ∧ ∃ ys, Paired NRel xs ys ∧ h.DictOfH (nestedKind P w) a ys := by
  obtain ⟨⟨z, hd, nd, ys, r, o, es, ep, h1, h2, h3, h4⟩, _, _⟩ := ok a _ e
  have k1 : ∀ {xs : List NX} {ys : List NY}, Paired NRel xs ys → xs.map (·.1) = ys.map (·.1) := by
    intro xs ys r
    induction r with
    | nil => rfl
    | cons h t ih => rw [List.map_cons, List.map_cons, ih, h.1]
  have k2 : ∀ {xs : List NX} {ys : List NY}, Paired NRel xs ys → NKey H xs → ∀ y ∈ ys, (nestedKind P w).is h y.1 y.2.1 := by
    intro xs ys r
    induction r with
    | nil => intro _ y hy; cases hy
    | cons hh t ih =>
      intro ks y hy
      rcases List.mem_cons.mp hy with rfl | hy
      · obtain ⟨q1, q2⟩ := ks _ (List.mem_cons_self ..)
        refine ⟨?_, by rw [← hh.1]; exact q2⟩
        rw [← hh.1, ← hh.2.1]
        exact q1.is ok rfl
      · exact ih (fun x hx => ks x (List.mem_cons_of_mem _ hx)) y hy
  exact ⟨z, hd, ys, r, o, es, ep, h1, h2, h3, h4, k2 r ks, by rw [← k1 r]; exact nd⟩
theorem n_getItem {v : V} {Q : Value → Shared → Prop} (hu : A.units + 9 < cLine) (I : Inv X pins σ H s) (e : H a = some (NDict X.prog X.w a xs)) (ks : NKey H xs) (kb : NK H k (.ref b)) (kd : k.depth ≤ 8) (l : nval xs k = some v) (h : ∀ w' s', Inv X pins σ H s' → RelV v w' → Q w' s') :
    wpAny (model X.prog X.w) A (getItem (.ref a) (.ref b)) Q E s := by
  obtain ⟨z, hd, ys, r, dd⟩ := nd_of I.hok e ks
  have hv := nrel_val k r
  rw [l] at hv
  cases hp : atKey ys k with
  | none => rw [hp] at hv; exact hv.elim
  | some p =>
    rw [hp] at hv
    exact wpAny_getItem_heap (knd := nestedKind X.prog X.w) (nroom hu) ⟨kb.is I.hok rfl, kd⟩ dd hp (h _ _ (I.tok _) hv)
theorem n_in {Q : Value → Shared → Prop} (hu : A.units + 9 < cLine) (I : Inv X pins σ H s) (e : H a = some (NDict X.prog X.w a xs)) (ks : NKey H xs) (kb : NK H k (.ref b)) (kd : k.depth ≤ 8) (h : ∀ s', Inv X pins σ H s' → Q (.bool (nval xs k).isSome) s') :
    wpAny (model X.prog X.w) A (compareOp .In (.ref b) (.ref a)) Q E s := by
  obtain ⟨z, hd, ys, r, dd⟩ := nd_of I.hok e ks
  have hv := (nrel_val k r).isSome_eq
  refine wpAny_in_heap (knd := nestedKind X.prog X.w) (nroom hu) ⟨kb.is I.hok rfl, kd⟩ hd dd ?_
  rw [Option.isSome_map] at hv
  rw [← hv]
  exact h _ (I.tok _)
theorem n_notIn {Q : Value → Shared → Prop} (hu : A.units + 9 < cLine) (I : Inv X pins σ H s) (e : H a = some (NDict X.prog X.w a xs)) (ks : NKey H xs) (kb : NK H k (.ref b)) (kd : k.depth ≤ 8) (h : ∀ s', Inv X pins σ H s' → Q (.bool (!(nval xs k).isSome)) s') :
    wpAny (model X.prog X.w) A (compareOp .NotIn (.ref b) (.ref a)) Q E s := by
  obtain ⟨z, hd, ys, r, dd⟩ := nd_of I.hok e ks
  have hv := (nrel_val k r).isSome_eq
  refine PyProof.Rows.wpAny_notIn_heap (knd := nestedKind X.prog X.w) (nroom hu) ⟨kb.is I.hok rfl, kd⟩ hd dd ?_
  rw [Option.isSome_map] at hv
  rw [← hv]
  exact h _ (I.tok _)
theorem length_nput (xs : List NX) (k : NestedKey) (a : Addr) (v : V) : (nput xs k a v).length ≤ xs.length + 1 := by
  unfold nput
  split <;> simp
/-- the object of such a dict, as it stands -/
theorem nd_ok {P : Program} {w : World} {H' : Hp} {h' : Heap} {ys : List NY} (z : xs.length ≤ sizeLine) (hd : (a == sysModules) = false) (r : Paired NRel xs ys) (dd : h'.DictOfH (nestedKind P w) a ys) : ObjOk P w H' h' a (NDict P w a xs) := by
  obtain ⟨o, es, ep, h1, h2, h3, h4, _, h5⟩ := dd
  have k1 : ∀ {xs : List NX} {ys : List NY}, Paired NRel xs ys → xs.map (·.1) = ys.map (·.1) := by
    intro xs ys r
    induction r with
    | nil => rfl
    | cons h t ih => rw [List.map_cons, List.map_cons, ih, h.1]
  exact ⟨⟨z, hd, by rw [k1 r]; exact h5, ys, r, o, es, ep, h1, h2, h3, h4⟩, ⟨o, h1⟩, fun g1 g2 ⟨z, hd, nd, ys, r, o, es, ep, q1, q2, q3, q4⟩ st => ⟨z, hd, nd, ys, r, o, es, ep, st _ q1, q2, q3, q4⟩⟩
theorem n_setItem {v : V} {u : Value} {Q : Unit → Shared → Prop} (hu : A.units + 9 < cLine) (I : Inv X pins σ H s) (e : H a = some (NDict X.prog X.w a xs)) (ks : NKey H xs) (kb : NK H k (.ref b)) (kd : k.depth ≤ 8) (hl : xs.length < sizeLine) (rv : RelV v u)
    (h : ∀ s', Inv X pins σ (upd H a (NDict X.prog X.w a (nput xs k b v))) s' → Q () s') : wpAny (model X.prog X.w) A (setItem (.ref a) (.ref b) u) Q E s := by
  obtain ⟨z, hd, ys, r, dd⟩ := nd_of I.hok e ks
  have hz : ys.length ≤ sizeLine := by rw [← Paired.length r]; exact z
  have hl' : (nput xs k b v).length ≤ sizeLine := by have := length_nput xs k b v; omega
  refine wpAny_setItem_heap (knd := nestedKind X.prog X.w) (hsz := hz) (nroom hu) ⟨kb.is I.hok rfl, kd⟩ dd fun h' dd' hs => h _ ?_
  have he : ∃ q, h'.get? a = some q := let ⟨q, _, _, hq, _⟩ := dd'; ⟨q, hq⟩
  exact d_write I (by rw [e]; exact True.intro) hs he (nd_ok hl' hd (nrel_put r rv) dd')
end
section
variable {X : Cx} {pos : Pos}
def tDNewN (P : Program) (w : World) : TE := fun _ H Q => ∀ p, H p = none → Q (.ref p) (upd H p (NDict P w p []))
theorem nd_empty {P : Program} {w : World} {H : Hp} (h : Heap) (hb : sysModules < h.objs.size) : ObjOk P w H (h.push { cls := .type "dict", data := .dict #[] }) h.objs.size (NDict P w h.objs.size []) :=
  nd_ok (Nat.zero_le _) (by simpa using Nat.ne_of_gt hb) .nil (Heap.DictOfH.new h)
theorem pe_dnewN : PE X (.Dict [] [] pos) (tDNewN X.prog X.w) := ⟨fun pins s σ H Q I h =>
  wpAny_Dict_empty ⟨.ref s.heap.objs.size, _, I.laid (a := s.heap.objs.size) (o := NDict X.prog X.w s.heap.objs.size []) (t' := s.toks) (fun _ _ q => Heap.get?_push_of_some _ q) (Nat.le_refl _) (nd_empty s.heap I.big), rfl, h _ (I.hok.fresh (Nat.le_refl _))⟩⟩
end
end Z
set_option Elab.async false
set_option linter.all false
set_option maxRecDepth 100000
/-! Z1: own values, own heap, the relation to the abstract heap of HandS. -/
namespace Z
open PySem PySem.Spec L2

/-- a number that range takes; a place that pop takes -/
inductive R62 (j : Int) : Prop
  | mk (h : -(2 ^ 62) ≤ j ∧ j < 2 ^ 62)
inductive R63 (j : Int) : Prop
  | mk (h : -(2 ^ 63) ≤ j ∧ j < 2 ^ 63)
theorem R62.of {j : Int} : R62 j → -(2 ^ 62) ≤ j ∧ j < 2 ^ 62
  | .mk h => h
theorem R63.of {j : Int} : R63 j → -(2 ^ 63) ≤ j ∧ j < 2 ^ 63
  | .mk h => h
theorem r62 {n : Nat} (h : n ≤ 1000000) : R62 (n : Int) := by
  refine .mk ?_
  simp only [Int.reducePow]
  omega
theorem r62i {i : Int} (h : -1000000 ≤ i) (h2 : i ≤ 1000000) : R62 i := by
  refine .mk ?_
  simp only [Int.reducePow]
  omega
theorem r63 {n : Nat} (h : n ≤ 1000000) : R63 (n : Int) := by
  refine .mk ?_
  simp only [Int.reducePow]
  omega
/-- own values: frozen data as trees; ref: an object of the own heap -/
inductive D where
  | non | bl (b : Bool) | int (i : Int) | str (s : Str)
  | tup (ds : List D) | lst (ds : List D)
  | dK (kvs : List (Key × D)) | dT (kvs : List (List Key × D))
  | obj (c : Nat) (fs : List D)
  /-- the script: a list that is read alone -/
  | ro (ns : List Int)
  | ref (n : Nat)
/-- own mutable objects -/
inductive O where
  | lst (ds : List D) | dK (kvs : List (Key × D)) | dT (kvs : List (List Key × D))
  | ins (c : Nat) (fs : List D) | dead
  /-- a dict that is walked: read, not written -/
  | lkK (kvs : List (Key × D)) | lkT (kvs : List (List Key × D))
  /-- a table of code objects -/
  | tb (j : Nat)
  /-- a dict whose keys are tuples of any depth -/
  | dN (kds : List (D × D))
/-- the program's classes: where they stand, their attributes' names in order -/
structure Cn where
  ad : Nat → Addr
  nm : Nat → List Str
  ro : Addr → List Int → Prop
  /-- the tables of code objects: where they stand, their codes' name -/
  tb : Nat → Addr × Str
  prog : Program
  w : World
/-- an expression's outcome: a value, or a new object that nobody else holds -/
inductive R where
  | v (d : D) | n (o : O)
abbrev Own := List O
abbrev Sl := List (Option D)
inductive Res (α : Type) where
  | ok (a : α) (h : Own) | exc (c : Nat) (h : Own) | stuck
namespace Res
def bind {α β : Type} (x : Res α) (f : α → Own → Res β) : Res β := match x with
  | ok a h => f a h
  | exc c h => exc c h
  | stuck => stuck
@[simp] theorem bind_ok {α β : Type} (a : α) (h : Own) (f : α → Own → Res β) : (Res.ok a h).bind f = f a h := rfl
@[simp] theorem bind_exc {α β : Type} (c : Nat) (h : Own) (f : α → Own → Res β) : (Res.exc c h : Res α).bind f = .exc c h := rfl
@[simp] theorem bind_stuck {α β : Type} (f : α → Own → Res β) : (Res.stuck : Res α).bind f = .stuck := rfl
end Res

mutual
/-- the key that a value is -/
def nk : D → Option NestedKey
  | .non => some .none
  | .bl b => some (.num (if b = true then 1 else 0))
  | .int i => some (.num i)
  | .str s => some (.text s)
  | .tup ds => (nks ds).map .tup
  | .lst _ => none
  | .dK _ => none
  | .dT _ => none
  | .obj _ _ => none
  | .ro _ => none
  | .ref _ => none
def nks : List D → Option (List NestedKey)
  | [] => some []
  | d :: ds => (nk d).bind fun k => (nks ds).map fun ks => k :: ks
end
section
variable (ca : Cn) (μ : List Addr) (F : Hp)
mutual
inductive VR : V → D → Prop where
  | non : VR .non .non
  | bl (b : Bool) : VR (.bl b) (.bl b)
  | int (i : Int) : VR (.int i) (.int i)
  | str (s : Str) : VR (.str s) (.str s)
  | tup {a : Addr} {vs : List V} {ds : List D} (e : F a = some (.tup vs)) (r : VRs vs ds) : VR (.ref a) (.tup ds)
  | lst {a : Addr} {vs : List V} {ds : List D} (e : F a = some (.lst vs)) (r : VRs vs ds) : VR (.ref a) (.lst ds)
  | dK {a : Addr} {kvs : List (Key × V)} {kds : List (Key × D)} (e : F a = some (.dK kvs)) (k : kvs.map (·.1) = kds.map (·.1)) (r : VRs (kvs.map (·.2)) (kds.map (·.2))) : VR (.ref a) (.dK kds)
  | dT {a : Addr} {kvs : List (List Key × V)} {kds : List (List Key × D)} (e : F a = some (.dT kvs)) (k : kvs.map (·.1) = kds.map (·.1)) (r : VRs (kvs.map (·.2)) (kds.map (·.2))) : VR (.ref a) (.dT kds)
  | obj {a dx : Addr} {c : Nat} {fs : List (Str × V)} {fds : List D} (e : F a = some (.ins (ca.ad c) dx fs)) (k : fs.map (·.1) = (ca.nm c).take fds.length) (r : VRs (fs.map (·.2)) fds) : VR (.ref a) (.obj c fds)
  | ro {a : Addr} {ns : List Int} (e : Rd F a (.lst (ns.map .int)) ∨ ca.ro a ns) : VR (.ref a) (.ro ns)
  | ref {a : Addr} {n : Nat} (e : μ[n]? = some a) : VR (.ref a) (.ref n)
inductive VRs : List V → List D → Prop where
  | nil : VRs [] []
  | cons {v : V} {d : D} {vs : List V} {ds : List D} (h : VR v d) (t : VRs vs ds) : VRs (v :: vs) (d :: ds)
end
end

section
variable {ca : Cn} {μ μ' : List Addr} {F F' : Hp}
mutual
theorem VR.mono (hm : ∀ (n : Nat) (a : Addr), μ[n]? = some a → μ'[n]? = some a) (hF : Same F F') : ∀ {v : V} {d : D}, VR ca μ F v d → VR ca μ' F' v d
  | _, _, .non => .non
  | _, _, .bl b => .bl b
  | _, _, .int i => .int i
  | _, _, .str s => .str s
  | _, _, .tup e r => .tup (hF _ _ e) (VRs.mono hm hF r)
  | _, _, .lst e r => .lst (hF _ _ e) (VRs.mono hm hF r)
  | _, _, .dK e k r => .dK (hF _ _ e) k (VRs.mono hm hF r)
  | _, _, .dT e k r => .dT (hF _ _ e) k (VRs.mono hm hF r)
  | _, _, .obj e k r => .obj (hF _ _ e) k (VRs.mono hm hF r)
  | _, _, .ref e => .ref (hm _ _ e)
  | _, _, .ro e => .ro (e.imp (fun z => z.imp (fun z => hF _ _ z) fun ⟨o, z⟩ => ⟨o, hF _ _ z⟩) fun z => z)
theorem VRs.mono (hm : ∀ (n : Nat) (a : Addr), μ[n]? = some a → μ'[n]? = some a) (hF : Same F F') : ∀ {vs : List V} {ds : List D}, VRs ca μ F vs ds → VRs ca μ' F' vs ds
  | _, _, .nil => .nil
  | _, _, .cons h t => .cons (VR.mono hm hF h) (VRs.mono hm hF t)
end
theorem VRs.length : ∀ {vs : List V} {ds : List D}, VRs ca μ F vs ds → vs.length = ds.length
  | _, _, .nil => rfl
  | _, _, .cons _ t => congrArg (· + 1) (VRs.length t)
theorem VRs.append : ∀ {vs ws : List V} {ds es : List D}, VRs ca μ F vs ds → VRs ca μ F ws es → VRs ca μ F (vs ++ ws) (ds ++ es)
  | _, _, _, _, .nil, s => s
  | _, _, _, _, .cons h t, s => .cons h (VRs.append t s)
theorem VRs.get : ∀ {vs : List V} {ds : List D} {i : Nat} {d : D}, VRs ca μ F vs ds → ds[i]? = some d → ∃ v, vs[i]? = some v ∧ VR ca μ F v d
  | _, _, _, _, .nil, e => by simp at e
  | _, _, 0, _, .cons h _, e => by simp at e; subst e; exact ⟨_, rfl, h⟩
  | _, _, i + 1, d, .cons _ t, e => by
    obtain ⟨v, h1, h2⟩ := VRs.get (i := i) (d := d) t (by simpa using e)
    exact ⟨v, by simpa using h1, h2⟩
theorem VRs.getV : ∀ {vs : List V} {ds : List D} {i : Nat} {v : V}, VRs ca μ F vs ds → vs[i]? = some v → ∃ d, ds[i]? = some d ∧ VR ca μ F v d
  | _, _, _, _, .nil, e => by simp at e
  | _, _, 0, _, .cons h _, e => by simp at e; subst e; exact ⟨_, rfl, h⟩
  | _, _, i + 1, v, .cons _ t, e => by
    obtain ⟨d, h1, h2⟩ := VRs.getV (i := i) (v := v) t (by simpa using e)
    exact ⟨d, by simpa using h1, h2⟩
theorem VRs.set : ∀ {vs : List V} {ds : List D} (i : Nat) {v : V} {d : D}, VRs ca μ F vs ds → VR ca μ F v d → VRs ca μ F (vs.set i v) (ds.set i d)
  | _, _, _, _, _, .nil, _ => .nil
  | _, _, 0, _, _, .cons _ t, r => .cons r t
  | _, _, i + 1, _, _, .cons h t, r => .cons h (VRs.set i t r)
theorem VRs.take : ∀ {vs : List V} {ds : List D} (n : Nat), VRs ca μ F vs ds → VRs ca μ F (vs.take n) (ds.take n)
  | _, _, 0, _ => .nil
  | _, _, _ + 1, .nil => .nil
  | _, _, n + 1, .cons h t => .cons h (VRs.take n t)
theorem VRs.drop : ∀ {vs : List V} {ds : List D} (n : Nat), VRs ca μ F vs ds → VRs ca μ F (vs.drop n) (ds.drop n)
  | _, _, 0, r => r
  | _, _, _ + 1, .nil => .nil
  | _, _, n + 1, .cons _ t => VRs.drop n t
theorem VRs.eraseIdx : ∀ {vs : List V} {ds : List D} (i : Nat), VRs ca μ F vs ds → VRs ca μ F (vs.eraseIdx i) (ds.eraseIdx i)
  | _, _, _, .nil => .nil
  | _, _, 0, .cons _ t => t
  | _, _, i + 1, .cons h t => .cons h (VRs.eraseIdx i t)
theorem VRs.reverse {vs : List V} {ds : List D} (h : VRs ca μ F vs ds) : VRs ca μ F vs.reverse ds.reverse := by
  induction vs generalizing ds with
  | nil => cases h; exact .nil
  | cons v vs ih =>
    cases h with
    | cons h t =>
      rw [List.reverse_cons, List.reverse_cons]
      exact (ih t).append (.cons h .nil)
theorem VRs.ints : ∀ {ns : List Int} {vs : List V}, VRs ca μ F vs (ns.map D.int) → vs = ns.map V.int
  | [], _, .nil => rfl
  | n :: ns, _, .cons h t => by
    cases h
    rw [VRs.ints (ns := ns) t]
    rfl
theorem VRs.of_ints : ∀ (ns : List Int), VRs ca μ F (ns.map V.int) (ns.map D.int)
  | [] => .nil
  | n :: ns => .cons (.int n) (VRs.of_ints ns)
theorem VRs.bls : ∀ {ns : List Bool} {vs : List V}, VRs ca μ F vs (ns.map D.bl) → vs = ns.map V.bl
  | [], _, .nil => rfl
  | n :: ns, _, .cons h t => by
    cases h
    rw [VRs.bls (ns := ns) t]
    rfl
end

/-- how the own object stands at its address -/
def OR (ca : Cn) (μ : List Addr) (F H : Hp) (a : Addr) : O → Prop
  | .lst ds => ∃ vs, H a = some (.lst vs) ∧ VRs ca μ F vs ds
  | .dK kds => ∃ kvs : List (Key × V), H a = some (.dK kvs) ∧ kvs.map (·.1) = kds.map (·.1) ∧ VRs ca μ F (kvs.map (·.2)) (kds.map (·.2))
  | .dT kds => ∃ kvs : List (List Key × V), H a = some (.dT kvs) ∧ kvs.map (·.1) = kds.map (·.1) ∧ VRs ca μ F (kvs.map (·.2)) (kds.map (·.2))
  | .ins c fds => ∃ (dx : Addr) (fs : List (Str × V)), H a = some (.ins (ca.ad c) dx fs) ∧ fs.map (·.1) = (ca.nm c).take fds.length ∧ VRs ca μ F (fs.map (·.2)) fds
  | .dead => True
  | .lkK kds => ∃ (od : Obj) (kvs : List (Key × V)), H a = some (.frz od (.dK kvs)) ∧ kvs.map (·.1) = kds.map (·.1) ∧ VRs ca μ F (kvs.map (·.2)) (kds.map (·.2))
  | .lkT kds => ∃ (od : Obj) (kvs : List (List Key × V)), H a = some (.frz od (.dT kvs)) ∧ kvs.map (·.1) = kds.map (·.1) ∧ VRs ca μ F (kvs.map (·.2)) (kds.map (·.2))
  | .dN kds => ∃ xs : List NX, H a = some (NDict ca.prog ca.w a xs) ∧ xs.map (fun x => some x.1) = kds.map (fun p => nk p.1) ∧ (∀ x ∈ xs, x.1.depth ≤ 8) ∧ VRs ca μ F (xs.map fun x => V.ref x.2.1) (kds.map (·.1)) ∧ VRs ca μ F (xs.map fun x => x.2.2) (kds.map (·.2))
  | .tb j => a = (ca.tb j).1 ∧ ∃ ps : Array Value, H a = some (.tbl ps) ∧ TriplesOk ps.toList ∧ ∀ (pos : Pos) (cv : Value), codeAmong pos ps.toList = some cv → ∃ c, cv = .ref c ∧ F c = some (LamX.CodeO c (ca.tb j).2)
theorem OR.mono {ca : Cn} {μ μ' : List Addr} {F F' H H' : Hp} {a : Addr} (hm : ∀ (n : Nat) (a : Addr), μ[n]? = some a → μ'[n]? = some a) (hF : Same F F') (hH : ∀ o, H a = some o → H' a = some o) : ∀ {o : O}, OR ca μ F H a o → OR ca μ' F' H' a o
  | .lst _, ⟨vs, e, r⟩ => ⟨vs, hH _ e, r.mono hm hF⟩
  | .dK _, ⟨vs, e, k, r⟩ => ⟨vs, hH _ e, k, r.mono hm hF⟩
  | .dT _, ⟨vs, e, k, r⟩ => ⟨vs, hH _ e, k, r.mono hm hF⟩
  | .ins _ _, ⟨dx, vs, e, k, r⟩ => ⟨dx, vs, hH _ e, k, r.mono hm hF⟩
  | .dead, _ => True.intro
  | .lkK _, ⟨od, vs, e, k, r⟩ => ⟨od, vs, hH _ e, k, r.mono hm hF⟩
  | .lkT _, ⟨od, vs, e, k, r⟩ => ⟨od, vs, hH _ e, k, r.mono hm hF⟩
  | .dN _, ⟨xs, e, k, l, r, q⟩ => ⟨xs, hH _ e, k, l, r.mono hm hF, q.mono hm hF⟩
  | .tb _, ⟨e0, ps, e, k, r⟩ => ⟨e0, ps, hH _ e, k, fun pos cv h => let ⟨c, e1, e2⟩ := r pos cv h; ⟨c, e1, hF _ _ e2⟩⟩

/-! no refs within -/
mutual
def nrf : D → Bool
  | .tup ds => nrfs ds
  | .lst ds => nrfs ds
  | .dK kvs => nrfK kvs
  | .dT kvs => nrfT kvs
  | .obj _ fs => nrfs fs
  | .ref _ => false
  | .non => true
  | .bl _ => true
  | .int _ => true
  | .str _ => true
  | .ro _ => true
def nrfs : List D → Bool
  | [] => true
  | d :: ds => nrf d && nrfs ds
def nrfK : List (Key × D) → Bool
  | [] => true
  | (_, d) :: ds => nrf d && nrfK ds
def nrfT : List (List Key × D) → Bool
  | [] => true
  | (_, d) :: ds => nrf d && nrfT ds
end
theorem nrfs_all : ∀ ds : List D, nrfs ds = ds.all nrf
  | [] => rfl
  | d :: ds => by rw [nrfs, nrfs_all ds]; rfl
theorem nrfK_all : ∀ ds : List (Key × D), nrfK ds = (ds.map (·.2)).all nrf
  | [] => rfl
  | (_, d) :: ds => by rw [nrfK, nrfK_all ds]; rfl
theorem nrfT_all : ∀ ds : List (List Key × D), nrfT ds = (ds.map (·.2)).all nrf
  | [] => rfl
  | (_, d) :: ds => by rw [nrfT, nrfT_all ds]; rfl
def nrfO : O → Bool
  | .lst ds => nrfs ds
  | .dK kvs => nrfK kvs
  | .dT kvs => nrfT kvs
  | .ins _ fs => nrfs fs
  | .dead => true
  | .lkK kvs => nrfK kvs
  | .lkT kvs => nrfT kvs
  | .tb _ => true
  | .dN kds => nrfs (kds.map (·.1)) && nrfs (kds.map (·.2))
/-! the refs within -/
mutual
def refs : D → List Nat
  | .tup ds => refss ds
  | .lst ds => refss ds
  | .dK kvs => refsK kvs
  | .dT kvs => refsT kvs
  | .obj _ fs => refss fs
  | .ref n => [n]
  | .non => []
  | .bl _ => []
  | .int _ => []
  | .str _ => []
  | .ro _ => []
def refss : List D → List Nat
  | [] => []
  | d :: ds => refs d ++ refss ds
def refsK : List (Key × D) → List Nat
  | [] => []
  | (_, d) :: ds => refs d ++ refsK ds
def refsT : List (List Key × D) → List Nat
  | [] => []
  | (_, d) :: ds => refs d ++ refsT ds
end
theorem refsK_all : ∀ ds : List (Key × D), refsK ds = refss (ds.map (·.2))
  | [] => rfl
  | (_, d) :: ds => by rw [refsK, refsK_all ds]; rfl
theorem refsT_all : ∀ ds : List (List Key × D), refsT ds = refss (ds.map (·.2))
  | [] => rfl
  | (_, d) :: ds => by rw [refsT, refsT_all ds]; rfl
mutual
theorem refs_nil : ∀ d : D, refs d = [] → nrf d = true
  | .tup ds, h => by rw [nrf]; rw [refs] at h; exact refss_nil ds h
  | .lst ds, h => by rw [nrf]; rw [refs] at h; exact refss_nil ds h
  | .dK ds, h => by rw [nrf]; rw [refs] at h; exact refsK_nil ds h
  | .dT ds, h => by rw [nrf]; rw [refs] at h; exact refsT_nil ds h
  | .obj _ ds, h => by rw [nrf]; rw [refs] at h; exact refss_nil ds h
  | .ref _, h => by rw [refs] at h; cases h
  | .non, _ => rfl
  | .bl _, _ => rfl
  | .int _, _ => rfl
  | .str _, _ => rfl
  | .ro _, _ => rfl
theorem refss_nil : ∀ ds : List D, refss ds = [] → nrfs ds = true
  | [], _ => rfl
  | d :: ds, h => by
    rw [refss, List.append_eq_nil_iff] at h
    rw [nrfs, refs_nil d h.1, refss_nil ds h.2]
    rfl
theorem refsK_nil : ∀ ds : List (Key × D), refsK ds = [] → nrfK ds = true
  | [], _ => rfl
  | (_, d) :: ds, h => by
    rw [refsK, List.append_eq_nil_iff] at h
    rw [nrfK, refs_nil d h.1, refsK_nil ds h.2]
    rfl
theorem refsT_nil : ∀ ds : List (List Key × D), refsT ds = [] → nrfT ds = true
  | [], _ => rfl
  | (_, d) :: ds, h => by
    rw [refsT, List.append_eq_nil_iff] at h
    rw [nrfT, refs_nil d h.1, refsT_nil ds h.2]
    rfl
end
mutual
theorem nil_refs : ∀ d : D, nrf d = true → refs d = []
  | .tup ds, h => by rw [nrf] at h; rw [refs]; exact nil_refss ds h
  | .lst ds, h => by rw [nrf] at h; rw [refs]; exact nil_refss ds h
  | .dK ds, h => by rw [nrf] at h; rw [refs]; exact nil_refsK ds h
  | .dT ds, h => by rw [nrf] at h; rw [refs]; exact nil_refsT ds h
  | .obj _ ds, h => by rw [nrf] at h; rw [refs]; exact nil_refss ds h
  | .ref _, h => by rw [nrf] at h; cases h
  | .non, _ => rfl
  | .bl _, _ => rfl
  | .int _, _ => rfl
  | .str _, _ => rfl
  | .ro _, _ => rfl
theorem nil_refss : ∀ ds : List D, nrfs ds = true → refss ds = []
  | [], _ => rfl
  | d :: ds, h => by
    rw [nrfs, Bool.and_eq_true] at h
    rw [refss, nil_refs d h.1, nil_refss ds h.2]
    rfl
theorem nil_refsK : ∀ ds : List (Key × D), nrfK ds = true → refsK ds = []
  | [], _ => rfl
  | (_, d) :: ds, h => by
    rw [nrfK, Bool.and_eq_true] at h
    rw [refsK, nil_refs d h.1, nil_refsK ds h.2]
    rfl
theorem nil_refsT : ∀ ds : List (List Key × D), nrfT ds = true → refsT ds = []
  | [], _ => rfl
  | (_, d) :: ds, h => by
    rw [nrfT, Bool.and_eq_true] at h
    rw [refsT, nil_refs d h.1, nil_refsT ds h.2]
    rfl
end
def refsO : O → List Nat
  | .lst ds => refss ds
  | .dK kvs => refsK kvs
  | .dT kvs => refsT kvs
  | .ins _ fs => refss fs
  | .dead => []
  | .lkK kvs => refsK kvs
  | .lkT kvs => refsT kvs
  | .tb _ => []
  | .dN kds => refss (kds.map (·.1)) ++ refss (kds.map (·.2))
theorem refsO_nil : ∀ {o : O}, refsO o = [] → nrfO o = true
  | .lst _, h => refss_nil _ h
  | .dK _, h => refsK_nil _ h
  | .dT _, h => refsT_nil _ h
  | .ins _ _, h => refss_nil _ h
  | .dead, _ => rfl
  | .lkK _, h => refsK_nil _ h
  | .lkT _, h => refsT_nil _ h
  | .tb _, _ => rfl
  | .dN _, h => by
    rw [refsO, List.append_eq_nil_iff] at h
    rw [nrfO, refss_nil _ h.1, refss_nil _ h.2]
    rfl
theorem nil_refsO : ∀ {o : O}, nrfO o = true → refsO o = []
  | .lst _, h => nil_refss _ h
  | .dK _, h => nil_refsK _ h
  | .dT _, h => nil_refsT _ h
  | .ins _ _, h => nil_refss _ h
  | .dead, _ => rfl
  | .lkK _, h => nil_refsK _ h
  | .lkT _, h => nil_refsT _ h
  | .tb _, _ => rfl
  | .dN _, h => by
    rw [nrfO, Bool.and_eq_true] at h
    rw [refsO, nil_refss _ h.1, nil_refss _ h.2]
    rfl
/-- o holds no ref that o0 does not hold -/
def subR (o o0 : O) : Bool := (refsO o).all fun r => (refsO o0).contains r
theorem subR_iff {o o0 : O} : subR o o0 = true ↔ ∀ r ∈ refsO o, r ∈ refsO o0 := by
  unfold subR
  simp
/-- what a callee may make of an object at k -/
def KeepR (h : Own) (k : Nat) (o : O) : Prop := h[k]? = some o ∨ nrfO o = true ∨ ∃ o0, h[k]? = some o0 ∧ subR o o0 = true
theorem KeepR.sub {h : Own} {k : Nat} {o o1 : O} (a : KeepR h k o1) (s : subR o o1 = true) : KeepR h k o := by
  rcases a with z | z | ⟨o0, z, q⟩
  · exact .inr (.inr ⟨_, z, s⟩)
  · refine .inr (.inl (refsO_nil ?_))
    rw [subR_iff, nil_refsO z] at s
    cases e : refsO o with
    | nil => rfl
    | cons a l => exact absurd (s a (by rw [e]; exact List.mem_cons_self ..)) List.not_mem_nil
  · refine .inr (.inr ⟨_, z, ?_⟩)
    rw [subR_iff] at s q ⊢
    exact fun r hr => q r (s r hr)
theorem KeepR.trans {h h1 : Own} {k : Nat} {o : O} (c : KeepR h1 k o) (a : ∀ o, h1[k]? = some o → KeepR h k o) : KeepR h k o := by
  rcases c with z | z | ⟨o0, z, q⟩
  · exact a o z
  · exact .inr (.inl z)
  · exact (a _ z).sub q
/-- what nobody changes -/
def stb : O → Bool
  | .dead => true
  | .lkK _ => true
  | .lkT _ => true
  | _ => false
section
variable {ca : Cn} {μ μ' : List Addr} {F : Hp}
mutual
theorem VR.nrf : ∀ {v : V} {d : D}, VR ca μ F v d → nrf d = true → VR ca μ' F v d
  | _, _, .non, _ => .non
  | _, _, .bl b, _ => .bl b
  | _, _, .int i, _ => .int i
  | _, _, .str s, _ => .str s
  | _, _, .tup e r, q => .tup e (VRs.nrf r (by rw [Z.nrf, nrfs_all] at q; exact q))
  | _, _, .lst e r, q => .lst e (VRs.nrf r (by rw [Z.nrf, nrfs_all] at q; exact q))
  | _, _, .dK e k r, q => .dK e k (VRs.nrf r (by rw [Z.nrf, nrfK_all] at q; exact q))
  | _, _, .dT e k r, q => .dT e k (VRs.nrf r (by rw [Z.nrf, nrfT_all] at q; exact q))
  | _, _, .obj e k r, q => .obj e k (VRs.nrf r (by rw [Z.nrf, nrfs_all] at q; exact q))
  | _, _, .ref e, q => by rw [Z.nrf] at q; cases q
  | _, _, .ro e, _ => .ro e
theorem VRs.nrf : ∀ {vs : List V} {ds : List D}, VRs ca μ F vs ds → ds.all Z.nrf = true → VRs ca μ' F vs ds
  | _, _, .nil, _ => .nil
  | _, _, .cons h t, q => .cons (VR.nrf h (by rw [List.all_cons, Bool.and_eq_true] at q; exact q.1)) (VRs.nrf t (by rw [List.all_cons, Bool.and_eq_true] at q; exact q.2))
end
theorem OR.nrf {H : Hp} {a : Addr} : ∀ {o : O}, OR ca μ F H a o → nrfO o = true → OR ca μ' F H a o
  | .lst _, ⟨vs, e, r⟩, q => ⟨vs, e, r.nrf (by rw [nrfO, nrfs_all] at q; exact q)⟩
  | .dK _, ⟨vs, e, k, r⟩, q => ⟨vs, e, k, r.nrf (by rw [nrfO, nrfK_all] at q; exact q)⟩
  | .dT _, ⟨vs, e, k, r⟩, q => ⟨vs, e, k, r.nrf (by rw [nrfO, nrfT_all] at q; exact q)⟩
  | .ins _ _, ⟨dx, vs, e, k, r⟩, q => ⟨dx, vs, e, k, r.nrf (by rw [nrfO, nrfs_all] at q; exact q)⟩
  | .dead, _, _ => True.intro
  | .lkK _, ⟨od, vs, e, k, r⟩, q => ⟨od, vs, e, k, r.nrf (by rw [nrfO, nrfK_all] at q; exact q)⟩
  | .lkT _, ⟨od, vs, e, k, r⟩, q => ⟨od, vs, e, k, r.nrf (by rw [nrfO, nrfT_all] at q; exact q)⟩
  | .dN _, ⟨xs, e, k, l, r, s⟩, q => ⟨xs, e, k, l, r.nrf (by rw [nrfO, Bool.and_eq_true, nrfs_all, nrfs_all] at q; exact q.1), s.nrf (by rw [nrfO, Bool.and_eq_true, nrfs_all, nrfs_all] at q; exact q.2)⟩
  | .tb _, r, _ => r
-- what was related ahead keeps to the old addresses
variable {m : List Addr} {F0 : Hp}
mutual
theorem VR.back (hm : μ' = μ ++ m) : ∀ {v w : V} {d : D}, VR ca μ F0 w d → VR ca μ' F v d → VR ca μ F v d
  | _, _, _, .non, .non => .non
  | _, _, _, .bl b, .bl _ => .bl b
  | _, _, _, .int i, .int _ => .int i
  | _, _, _, .str s, .str _ => .str s
  | _, _, _, .tup _ r0, .tup e r => .tup e (VRs.back hm r0 r)
  | _, _, _, .lst _ r0, .lst e r => .lst e (VRs.back hm r0 r)
  | _, _, _, .dK _ _ r0, .dK e k r => .dK e k (VRs.back hm r0 r)
  | _, _, _, .dT _ _ r0, .dT e k r => .dT e k (VRs.back hm r0 r)
  | _, _, _, .obj _ _ r0, .obj e k r => .obj e k (VRs.back hm r0 r)
  | _, _, _, .ref e0, .ref e => .ref (by
      subst hm
      rw [List.getElem?_append_left (List.getElem?_eq_some_iff.mp e0).1] at e
      exact e)
  | _, _, _, .ro _, .ro e => .ro e
theorem VRs.back (hm : μ' = μ ++ m) : ∀ {vs ws : List V} {ds : List D}, VRs ca μ F0 ws ds → VRs ca μ' F vs ds → VRs ca μ F vs ds
  | _, _, _, .nil, .nil => .nil
  | _, _, _, .cons h0 t0, .cons h t => .cons (VR.back hm h0 h) (VRs.back hm t0 t)
end
theorem OR.back {H0 H : Hp} {a b : Addr} (hm : μ' = μ ++ m) : ∀ {o : O}, OR ca μ F0 H0 b o → OR ca μ' F H a o → OR ca μ F H a o
  | .lst _, ⟨_, _, r0⟩, ⟨vs, e, r⟩ => ⟨vs, e, r0.back hm r⟩
  | .dK _, ⟨_, _, _, r0⟩, ⟨vs, e, k, r⟩ => ⟨vs, e, k, r0.back hm r⟩
  | .dT _, ⟨_, _, _, r0⟩, ⟨vs, e, k, r⟩ => ⟨vs, e, k, r0.back hm r⟩
  | .ins _ _, ⟨_, _, _, _, r0⟩, ⟨dx, vs, e, k, r⟩ => ⟨dx, vs, e, k, r0.back hm r⟩
  | .dead, _, _ => True.intro
  | .lkK _, ⟨_, _, _, _, r0⟩, ⟨od, vs, e, k, r⟩ => ⟨od, vs, e, k, r0.back hm r⟩
  | .lkT _, ⟨_, _, _, _, r0⟩, ⟨od, vs, e, k, r⟩ => ⟨od, vs, e, k, r0.back hm r⟩
  | .tb _, _, r => r
  | .dN _, ⟨_, _, _, _, r0, s0⟩, ⟨xs, e, k, l, r, s⟩ => ⟨xs, e, k, l, r0.back hm r, s0.back hm s⟩
-- all its refs are old
mutual
theorem VR.old (hm : μ' = μ ++ m) : ∀ {v : V} {d : D}, VR ca μ' F v d → (∀ r ∈ refs d, r < μ.length) → VR ca μ F v d
  | _, _, .non, _ => .non
  | _, _, .bl b, _ => .bl b
  | _, _, .int i, _ => .int i
  | _, _, .str s, _ => .str s
  | _, _, .tup e r, q => .tup e (VRs.old hm r (by rw [refs] at q; exact q))
  | _, _, .lst e r, q => .lst e (VRs.old hm r (by rw [refs] at q; exact q))
  | _, _, .dK e k r, q => .dK e k (VRs.old hm r (by rw [refs, refsK_all] at q; exact q))
  | _, _, .dT e k r, q => .dT e k (VRs.old hm r (by rw [refs, refsT_all] at q; exact q))
  | _, _, .obj e k r, q => .obj e k (VRs.old hm r (by rw [refs] at q; exact q))
  | _, _, .ref (n := n) e, q => .ref (by
      subst hm
      rw [List.getElem?_append_left (q n (by rw [refs]; exact List.mem_singleton.mpr rfl))] at e
      exact e)
  | _, _, .ro e, _ => .ro e
theorem VRs.old (hm : μ' = μ ++ m) : ∀ {vs : List V} {ds : List D}, VRs ca μ' F vs ds → (∀ r ∈ refss ds, r < μ.length) → VRs ca μ F vs ds
  | _, _, .nil, _ => .nil
  | _, _, .cons h t, q => .cons (VR.old hm h fun r hr => q r (by rw [refss]; exact List.mem_append_left _ hr)) (VRs.old hm t fun r hr => q r (by rw [refss]; exact List.mem_append_right _ hr))
end
mutual
theorem VR.refs : ∀ {v : V} {d : D}, VR ca μ F v d → ∀ r ∈ refs d, r < μ.length
  | _, _, .non, r, h => by rw [Z.refs] at h; cases h
  | _, _, .bl b, r, h => by rw [Z.refs] at h; cases h
  | _, _, .int i, r, h => by rw [Z.refs] at h; cases h
  | _, _, .str s, r, h => by rw [Z.refs] at h; cases h
  | _, _, .tup e q, r, h => VRs.refs q r (by rw [Z.refs] at h; exact h)
  | _, _, .lst e q, r, h => VRs.refs q r (by rw [Z.refs] at h; exact h)
  | _, _, .dK e k q, r, h => VRs.refs q r (by rw [Z.refs, refsK_all] at h; exact h)
  | _, _, .dT e k q, r, h => VRs.refs q r (by rw [Z.refs, refsT_all] at h; exact h)
  | _, _, .obj e k q, r, h => VRs.refs q r (by rw [Z.refs] at h; exact h)
  | _, _, .ref e, r, h => by
      rw [Z.refs] at h
      rw [List.mem_singleton.mp h]
      exact (List.getElem?_eq_some_iff.mp e).1
  | _, _, .ro e, r, h => by rw [Z.refs] at h; cases h
theorem VRs.refs : ∀ {vs : List V} {ds : List D}, VRs ca μ F vs ds → ∀ r ∈ refss ds, r < μ.length
  | _, _, .nil, r, h => by rw [refss] at h; cases h
  | _, _, .cons q t, r, h => by
    rw [refss] at h
    rcases List.mem_append.mp h with z | z
    · exact VR.refs q r z
    · exact VRs.refs t r z
end
theorem OR.old {H : Hp} {a : Addr} (hm : μ' = μ ++ m) : ∀ {o : O}, OR ca μ' F H a o → (∀ r ∈ refsO o, r < μ.length) → OR ca μ F H a o
  | .lst _, ⟨vs, e, r⟩, q => ⟨vs, e, r.old hm q⟩
  | .dK _, ⟨vs, e, k, r⟩, q => ⟨vs, e, k, r.old hm (by rw [refsO, refsK_all] at q; exact q)⟩
  | .dT _, ⟨vs, e, k, r⟩, q => ⟨vs, e, k, r.old hm (by rw [refsO, refsT_all] at q; exact q)⟩
  | .ins _ _, ⟨dx, vs, e, k, r⟩, q => ⟨dx, vs, e, k, r.old hm q⟩
  | .dead, _, _ => True.intro
  | .lkK _, ⟨od, vs, e, k, r⟩, q => ⟨od, vs, e, k, r.old hm (by rw [refsO, refsK_all] at q; exact q)⟩
  | .lkT _, ⟨od, vs, e, k, r⟩, q => ⟨od, vs, e, k, r.old hm (by rw [refsO, refsT_all] at q; exact q)⟩
  | .dN _, ⟨xs, e, k, l, r, s⟩, q => ⟨xs, e, k, l, r.old hm fun y hy => q y (by rw [refsO]; exact List.mem_append_left _ hy), s.old hm fun y hy => q y (by rw [refsO]; exact List.mem_append_right _ hy)⟩
  | .tb _, r, _ => r
theorem OR.refs {H : Hp} {a : Addr} : ∀ {o : O}, OR ca μ F H a o → ∀ r ∈ refsO o, r < μ.length
  | .lst _, ⟨vs, e, q⟩, r, h => q.refs r h
  | .dK _, ⟨vs, e, k, q⟩, r, h => q.refs r (by rw [refsO, refsK_all] at h; exact h)
  | .dT _, ⟨vs, e, k, q⟩, r, h => q.refs r (by rw [refsO, refsT_all] at h; exact h)
  | .ins _ _, ⟨dx, vs, e, k, q⟩, r, h => q.refs r h
  | .dead, _, r, h => by rw [refsO] at h; cases h
  | .lkK _, ⟨od, vs, e, k, q⟩, r, h => q.refs r (by rw [refsO, refsK_all] at h; exact h)
  | .lkT _, ⟨od, vs, e, k, q⟩, r, h => q.refs r (by rw [refsO, refsT_all] at h; exact h)
  | .tb _, _, r, h => by rw [refsO] at h; cases h
  | .dN _, ⟨xs, e, k, l, q, s⟩, r, h => by
    rw [refsO] at h
    rcases List.mem_append.mp h with z | z
    · exact q.refs r z
    · exact s.refs r z
end

/-- the own heap h stands within H: own objects at μ, frozen data in F -/
structure RelH (ca : Cn) (μ : List Addr) (F : Hp) (h : Own) (H : Hp) : Prop where
  len : μ.length = h.length
  nd : μ.Nodup
  fz : Same F H
  sep : ∀ (n : Nat) (a : Addr) (o : O), μ[n]? = some a → h[n]? = some o → o ≠ .dead → F a = none
  dom : ∀ a ∈ μ, H a ≠ none
  ob : ∀ (n : Nat) (a : Addr) (o : O), μ[n]? = some a → h[n]? = some o → OR ca μ F H a o
/-- what a step of a frame with the base b may do to the rest -/
structure Ext (b : Nat) (μ : List Addr) (F H : Hp) (h : Own) (μ' : List Addr) (F' H' : Hp) (h' : Own) : Prop where
  pre : ∃ m, μ' = μ ++ m ∧ ∀ a ∈ m, H a = none
  fz : Same F F'
  frame : ∀ a o, H a = some o → a ∉ μ → H' a = some o
  dom : ∀ a, H a ≠ none → H' a ≠ none
  newF : ∀ a, F' a ≠ none → F a ≠ none ∨ a ∈ μ ∨ H a = none ∨ (∃ xs, H a = some (.tup xs)) ∨ ∃ q, H a = some (LamX.CodeO a q)
  keep : ∀ (k : Nat) (o : O), k < b → h'[k]? = some o → KeepR h k o
  st : ∀ (n : Nat) (a : Addr) (o : O), μ[n]? = some a → h[n]? = some o → stb o = true → h'[n]? = some o ∧ ∀ u, H a = some u → H' a = some u
/-- a frame: the own heap's size at its start, its slots -/
structure Fm where
  b : Nat
  s : Sl
def SR (ca : Cn) (μ : List Addr) (F : Hp) (τ : Sl) (σ : L2.St) : Prop := τ.length = σ.length ∧ ∀ (i : Nat) (d : D), τ[i]? = some (some d) → ∃ v, σ[i]? = some (some v) ∧ VR ca μ F v d
/-- an outcome; H0: the heap ahead of the expression -/
def RR (ca : Cn) (μ : List Addr) (F H0 H : Hp) (v : V) : R → Prop
  | .v d => VR ca μ F v d
  | .n o => ∃ a, v = .ref a ∧ H0 a = none ∧ H a ≠ none ∧ a ∉ μ ∧ F a = none ∧ OR ca μ F H a o

section
variable {b : Nat} {ca : Cn} {μ μ1 μ2 : List Addr} {F F1 F2 H H1 H2 : Hp} {h h1 h2 : Own}
theorem Ext.refl : Ext b μ F H h μ F H h := ⟨⟨[], by simp, by simp⟩, Same.refl _, fun _ _ e _ => e, fun _ e => e, fun _ e => .inl e, fun _ _ _ e => .inl e, fun _ _ _ _ e _ => ⟨e, fun _ z => z⟩⟩
theorem Ext.fresh (a : Ext b μ F H h μ1 F1 H1 h1) {x : Addr} (q : H1 x = none) : H x = none := by
  cases e : H x with
  | none => rfl
  | some o => exact absurd q (a.dom x (by rw [e]; simp))
theorem Ext.trans (a : Ext b μ F H h μ1 F1 H1 h1) (c : Ext b μ1 F1 H1 h1 μ2 F2 H2 h2) : Ext b μ F H h μ2 F2 H2 h2 := by
  obtain ⟨m1, e1, n1⟩ := a.pre
  obtain ⟨m2, e2, n2⟩ := c.pre
  have back : ∀ x, H1 x = none → H x = none := fun x q => a.fresh q
  refine ⟨⟨m1 ++ m2, by rw [e2, e1, List.append_assoc], fun x hx => ?_⟩, a.fz.trans c.fz, fun x o e hx => ?_, fun x e => c.dom x (a.dom x e), fun x e => ?_, fun k o hk e => ?_, fun n x o e1' e2' e3' => ?_⟩
  · rcases List.mem_append.mp hx with z | z
    · exact n1 x z
    · exact back x (n2 x z)
  · refine c.frame x o (a.frame x o e hx) fun z => ?_
    rw [e1] at z
    rcases List.mem_append.mp z with z | z
    · exact hx z
    · rw [n1 x z] at e; cases e
  · rcases c.newF x e with z | z | z | ⟨xs, z⟩ | ⟨xs, z⟩
    · exact a.newF x z
    · rw [e1] at z
      rcases List.mem_append.mp z with z | z
      · exact .inr (.inl z)
      · exact .inr (.inr (.inl (n1 x z)))
    · exact .inr (.inr (.inl (back x z)))
    · cases q : H x with
      | none => exact .inr (.inr (.inl rfl))
      | some u =>
        by_cases hm : x ∈ μ
        · exact .inr (.inl hm)
        · have := a.frame x u q hm
          rw [this] at z
          cases z
          exact .inr (.inr (.inr (.inl ⟨xs, rfl⟩)))
    · cases q : H x with
      | none => exact .inr (.inr (.inl rfl))
      | some u =>
        by_cases hm : x ∈ μ
        · exact .inr (.inl hm)
        · have := a.frame x u q hm
          rw [this] at z
          cases z
          exact .inr (.inr (.inr (.inr ⟨xs, rfl⟩)))
  · exact (c.keep k o hk e).trans fun o' e' => a.keep k o' hk e'
  · obtain ⟨w1, w2⟩ := a.st n x o e1' e2' e3'
    have e1'' : μ1[n]? = some x := by
      rw [e1, List.getElem?_append_left (List.getElem?_eq_some_iff.mp e1').1]
      exact e1'
    obtain ⟨w3, w4⟩ := c.st n x o e1'' w1 e3'
    exact ⟨w3, fun u z => w4 u (w2 u z)⟩
theorem Ext.ix (e : Ext b μ F H h μ1 F1 H1 h1) : ∀ (n : Nat) (a : Addr), μ[n]? = some a → μ1[n]? = some a := by
  intro n a q
  obtain ⟨m, e, _⟩ := e.pre
  subst e
  rw [List.getElem?_append_left (List.getElem?_eq_some_iff.mp q).1]
  exact q
theorem Ext.vr (e : Ext b μ F H h μ1 F1 H1 h1) {v : V} {d : D} (r : VR ca μ F v d) : VR ca μ1 F1 v d := r.mono e.ix e.fz
theorem Ext.vrs (e : Ext b μ F H h μ1 F1 H1 h1) {v : List V} {d : List D} (r : VRs ca μ F v d) : VRs ca μ1 F1 v d := r.mono e.ix e.fz
theorem Ext.sr (e : Ext b μ F H h μ1 F1 H1 h1) {τ : Sl} {σ : L2.St} (s : SR ca μ F τ σ) : SR ca μ1 F1 τ σ := ⟨s.1, fun i d q => let ⟨v, a, b⟩ := s.2 i d q; ⟨v, a, e.vr b⟩⟩
theorem Ext.len (e : Ext b μ F H h μ1 F1 H1 h1) (r : RelH ca μ F h H) (r1 : RelH ca μ1 F1 h1 H1) : h.length ≤ h1.length := by
  obtain ⟨m, e, _⟩ := e.pre
  rw [← r.len, ← r1.len, e, List.length_append]
  omega
theorem RR.back (e : Ext b μ F H h μ1 F1 H1 h1) {μ' : List Addr} {F' H' : Hp} {v : V} : ∀ {r : R}, RR ca μ' F' H1 H' v r → RR ca μ' F' H H' v r
  | .v _, r => r
  | .n _, ⟨a, e1, e2, e3⟩ => ⟨a, e1, e.fresh e2, e3⟩
theorem SR.set {τ : Sl} {σ : L2.St} (s : SR ca μ F τ σ) (i : Nat) {v : V} {d : D} (r : VR ca μ F v d) : SR ca μ F (τ.set i (some d)) (σ.set i (some v)) := by
  refine ⟨by simp [s.1], fun j d' q => ?_⟩
  by_cases hj : i = j
  · subst hj
    have hl : i < τ.length := by
      have := (List.getElem?_eq_some_iff.mp q).1
      simpa using this
    rw [List.getElem?_set_self hl] at q
    cases q
    exact ⟨v, List.getElem?_set_self (by rw [← s.1]; exact hl), r⟩
  · rw [List.getElem?_set_ne hj] at q
    rw [List.getElem?_set_ne hj]
    exact s.2 j d' q
theorem SR.clr {τ : Sl} {σ : L2.St} (s : SR ca μ F τ σ) (i : Nat) : SR ca μ F (τ.set i none) σ := by
  refine ⟨by simp [s.1], fun j d' q => ?_⟩
  by_cases hj : i = j
  · subst hj
    have hl : i < τ.length := by
      have := (List.getElem?_eq_some_iff.mp q).1
      simpa using this
    rw [List.getElem?_set_self hl] at q
    cases q
  · rw [List.getElem?_set_ne hj] at q
    exact s.2 j d' q
/-- a new object is taken into the own heap -/
theorem RelH.alloc (r : RelH ca μ F h H) {a : Addr} {o : O} (h1 : H a ≠ none) (h2 : a ∉ μ) (h3 : F a = none) (ho : OR ca μ F H a o) : RelH ca (μ ++ [a]) F (h ++ [o]) H := by
  have ix : ∀ (n : Nat) (x : Addr), μ[n]? = some x → (μ ++ [a])[n]? = some x := fun n x q => by
    rw [List.getElem?_append_left (List.getElem?_eq_some_iff.mp q).1]; exact q
  refine ⟨by simp [r.len], ?_, r.fz, fun n x o' e1 e2 e3 => ?_, fun x hx => ?_, fun n x o' e1 e2 => ?_⟩
  · rw [List.nodup_append]
    exact ⟨r.nd, by simp, fun x hx y hy => by simp at hy; subst hy; rintro rfl; exact h2 hx⟩
  · by_cases hn : n < μ.length
    · rw [List.getElem?_append_left hn] at e1
      rw [List.getElem?_append_left (by rw [← r.len]; exact hn)] at e2
      exact r.sep n x o' e1 e2 e3
    · have hl := (List.getElem?_eq_some_iff.mp e1).1
      simp at hl
      have e : n = μ.length := by omega
      subst e
      simp at e1
      subst e1
      exact h3
  · rcases List.mem_append.mp hx with z | z
    · exact r.dom x z
    · simp at z; subst z; exact h1
  · by_cases hn : n < μ.length
    · rw [List.getElem?_append_left hn] at e1
      rw [List.getElem?_append_left (by rw [← r.len]; exact hn)] at e2
      exact (r.ob n x o' e1 e2).mono ix (Same.refl _) fun _ q => q
    · have hl := (List.getElem?_eq_some_iff.mp e1).1
      simp at hl
      have e : n = μ.length := by omega
      subst e
      simp at e1
      subst e1
      rw [r.len] at e2
      simp at e2
      subst e2
      exact ho.mono ix (Same.refl _) fun _ q => q
theorem Ext.alloc (e : Ext b μ F H h μ1 F1 H1 h1) {a : Addr} {o : O} (ha : H a = none) (hb : b ≤ h1.length) : Ext b μ F H h (μ1 ++ [a]) F1 H1 (h1 ++ [o]) := by
  obtain ⟨m, e1, e2⟩ := e.pre
  refine ⟨⟨m ++ [a], by rw [e1, List.append_assoc], fun x hx => ?_⟩, e.fz, e.frame, e.dom, e.newF, fun k o' hk q => ?_, fun n x o' f1 f2 f3 => ?_⟩
  · rcases List.mem_append.mp hx with z | z
    · exact e2 x z
    · simp at z; subst z; exact ha
  · rw [List.getElem?_append_left (by omega)] at q
    exact e.keep k o' hk q
  · obtain ⟨w1, w2⟩ := e.st n x o' f1 f2 f3
    rw [List.getElem?_append_left (List.getElem?_eq_some_iff.mp w1).1]
    exact ⟨w1, w2⟩
/-- a new object is frozen -/
theorem RelH.freeze (r : RelH ca μ F h H) {a : Addr} {o : HO} (h1 : H a = some o) (h2 : a ∉ μ) (h3 : F a = none) : RelH ca μ (upd F a o) h H := by
  have hs : Same F (upd F a o) := fun x u e => by rw [upd_ne (ne_of_none e h3)]; exact e
  refine ⟨r.len, r.nd, fun x u e => ?_, fun n x o' e1 e2 e3 => ?_, r.dom, fun n x o' e1 e2 => (r.ob n x o' e1 e2).mono (fun _ _ q => q) hs fun _ q => q⟩
  · by_cases hx : x = a
    · subst hx; rw [upd_same] at e; cases e; exact h1
    · rw [upd_ne hx] at e; exact r.fz x u e
  · rw [upd_ne (show x ≠ a by rintro rfl; exact h2 (List.mem_of_getElem? e1))]; exact r.sep n x o' e1 e2 e3
theorem Ext.freeze (e : Ext b μ F H h μ1 F1 H1 h1) {a : Addr} {o : HO} (ha : H a = none) (h3 : F1 a = none) : Ext b μ F H h μ1 (upd F1 a o) H1 h1 := by
  refine ⟨e.pre, fun x u q => ?_, e.frame, e.dom, fun x q => ?_, e.keep, e.st⟩
  · have := e.fz x u q
    rw [upd_ne (ne_of_none this h3)]; exact this
  · by_cases hx : x = a
    · subst hx; exact .inr (.inr (.inl ha))
    · rw [upd_ne hx] at q; exact e.newF x q
/-- a new tracked object in H -/
theorem RelH.upd (r : RelH ca μ F h H) {a : Addr} {o : HO} (ha : H a = none) : RelH ca μ F h (upd H a o) := by
  have hs : ∀ x u, H x = some u → L2.upd H a o x = some u := fun x u e => by rw [upd_ne (ne_of_none e ha)]; exact e
  refine ⟨r.len, r.nd, fun x u e => hs x u (r.fz x u e), r.sep, fun x hx => ?_, fun n x o' e1 e2 => (r.ob n x o' e1 e2).mono (fun _ _ q => q) (Same.refl _) fun _ q => hs _ _ q⟩
  have := r.dom x hx
  cases q : H x with
  | none => exact absurd q this
  | some u => rw [hs x u q]; simp
theorem Ext.upd (e : Ext b μ F H h μ1 F1 H1 h1) {a : Addr} {o : HO} (ha : H1 a = none) : Ext b μ F H h μ1 F1 (upd H1 a o) h1 := by
  have hs : ∀ x u, H1 x = some u → L2.upd H1 a o x = some u := fun x u e => by rw [upd_ne (ne_of_none e ha)]; exact e
  refine ⟨e.pre, e.fz, fun x u q hx => hs x u (e.frame x u q hx), fun x q => ?_, e.newF, e.keep, fun n x o' f1 f2 f3 => ⟨(e.st n x o' f1 f2 f3).1, fun u z => hs x u ((e.st n x o' f1 f2 f3).2 u z)⟩⟩
  have := e.dom x q
  cases q : H1 x with
  | none => exact absurd q this
  | some u => rw [hs x u q]; simp
/-- an own object changes -/
theorem RelH.put (r : RelH ca μ F h H) {n : Nat} {a : Addr} {o o0 : O} {u : HO} (e : μ[n]? = some a) (e0 : h[n]? = some o0) (n0 : o0 ≠ .dead) (ho : ∀ H', H' a = some u → OR ca μ F H' a o) : RelH ca μ F (h.set n o) (L2.upd H a u) := by
  have ha : a ∈ μ := List.mem_of_getElem? e
  have hF := r.sep n a o0 e e0 n0
  refine ⟨by simp [r.len], r.nd, fun x w q => ?_, fun k x o' e1 e2 e3 => ?_, fun x hx => ?_, fun k x o' e1 e2 => ?_⟩
  · rw [upd_ne (ne_of_none q hF)]; exact r.fz x w q
  · by_cases hk : n = k
    · subst hk
      rw [e] at e1; cases e1
      exact hF
    · rw [List.getElem?_set_ne hk] at e2
      exact r.sep k x o' e1 e2 e3
  · by_cases hx' : x = a
    · subst hx'; rw [upd_same]; simp
    · rw [upd_ne hx']; exact r.dom x hx
  · by_cases hk : n = k
    · subst hk
      rw [e] at e1; cases e1
      have hl := (List.getElem?_eq_some_iff.mp e2).1
      rw [List.length_set] at hl
      rw [List.getElem?_set_self hl] at e2
      cases e2
      exact ho _ upd_same
    · rw [List.getElem?_set_ne hk] at e2
      have hne : x ≠ a := by
        rintro rfl
        obtain ⟨l1, q1⟩ := List.getElem?_eq_some_iff.mp e
        obtain ⟨l2, q2⟩ := List.getElem?_eq_some_iff.mp e1
        exact hk ((List.getElem_inj r.nd).mp (q1.trans q2.symm))
      exact (r.ob k x o' e1 e2).mono (fun _ _ q => q) (Same.refl _) fun w q => by rw [upd_ne hne]; exact q
theorem Ext.put (x : Ext b μ F H h μ1 F1 H1 h1) {n : Nat} {a : Addr} {o o0 : O} {u : HO} (r1 : RelH ca μ1 F1 h1 H1) (e : μ1[n]? = some a) (e0 : h1[n]? = some o0) (n0 : stb o0 = false) (hk : b ≤ n ∨ nrfO o = true ∨ subR o o0 = true) : Ext b μ F H h μ1 F1 (L2.upd H1 a u) (h1.set n o) := by
  have ha : a ∈ μ1 := List.mem_of_getElem? e
  obtain ⟨m, e1, e2⟩ := x.pre
  refine ⟨x.pre, x.fz, fun y w q hy => ?_, fun y q => ?_, x.newF, fun k o' hk' q => ?_, fun k y o' f1 f2 f3 => ?_⟩
  · rw [upd_ne ?_]
    · exact x.frame y w q hy
    · rintro rfl
      rw [e1] at ha
      rcases List.mem_append.mp ha with z | z
      · exact hy z
      · rw [e2 _ z] at q; cases q
  · by_cases hy : y = a
    · subst hy; rw [upd_same]; simp
    · rw [upd_ne hy]; exact x.dom y q
  · by_cases hn : n = k
    · subst hn
      have hl := (List.getElem?_eq_some_iff.mp q).1
      rw [List.length_set] at hl
      rw [List.getElem?_set_self hl] at q
      cases q
      rcases hk with z | z | z
      · omega
      · exact .inr (.inl z)
      · exact (x.keep _ _ hk' e0).sub z
    · rw [List.getElem?_set_ne hn] at q
      exact x.keep k o' hk' q
  · obtain ⟨w1, w2⟩ := x.st k y o' f1 f2 f3
    have f1' : μ1[k]? = some y := x.ix k y f1
    have hn : n ≠ k := by
      rintro rfl
      rw [e0] at w1; cases w1
      rw [n0] at f3; cases f3
    refine ⟨by rw [List.getElem?_set_ne hn]; exact w1, fun w z => ?_⟩
    have hne : y ≠ a := by
      rintro rfl
      obtain ⟨l1, q1⟩ := List.getElem?_eq_some_iff.mp e
      obtain ⟨l2, q2⟩ := List.getElem?_eq_some_iff.mp f1'
      exact hn ((List.getElem_inj r1.nd).mp (q1.trans q2.symm))
    rw [upd_ne hne]
    exact w2 w z
/-- .. whatever it is now, where it was no fixed one at the start -/
theorem Ext.put' (x : Ext b μ F H h μ1 F1 H1 h1) {n : Nat} {a : Addr} {o : O} {u : HO} (r1 : RelH ca μ1 F1 h1 H1) (e : μ1[n]? = some a) (n0 : ∀ o', h[n]? = some o' → stb o' = true → False) (hk : b ≤ n ∨ nrfO o = true) : Ext b μ F H h μ1 F1 (L2.upd H1 a u) (h1.set n o) := by
  have ha : a ∈ μ1 := List.mem_of_getElem? e
  obtain ⟨m, e1, e2⟩ := x.pre
  refine ⟨x.pre, x.fz, fun y w q hy => ?_, fun y q => ?_, x.newF, fun k o' hk' q => ?_, fun k y o' f1 f2 f3 => ?_⟩
  · rw [upd_ne ?_]
    · exact x.frame y w q hy
    · rintro rfl
      rw [e1] at ha
      rcases List.mem_append.mp ha with z | z
      · exact hy z
      · rw [e2 _ z] at q; cases q
  · by_cases hy : y = a
    · subst hy; rw [upd_same]; simp
    · rw [upd_ne hy]; exact x.dom y q
  · by_cases hn : n = k
    · subst hn
      have hl := (List.getElem?_eq_some_iff.mp q).1
      rw [List.length_set] at hl
      rw [List.getElem?_set_self hl] at q
      cases q
      rcases hk with z | z
      · omega
      · exact .inr (.inl z)
    · rw [List.getElem?_set_ne hn] at q
      exact x.keep k o' hk' q
  · obtain ⟨w1, w2⟩ := x.st k y o' f1 f2 f3
    have f1' : μ1[k]? = some y := x.ix k y f1
    have hn : n ≠ k := by
      rintro rfl
      exact n0 o' f2 f3
    refine ⟨by rw [List.getElem?_set_ne hn]; exact w1, fun w z => ?_⟩
    have hne : y ≠ a := by
      rintro rfl
      obtain ⟨l1, q1⟩ := List.getElem?_eq_some_iff.mp e
      obtain ⟨l2, q2⟩ := List.getElem?_eq_some_iff.mp f1'
      exact hn ((List.getElem_inj r1.nd).mp (q1.trans q2.symm))
    rw [upd_ne hne]
    exact w2 w z
theorem Ext.base {b' : Nat} (x : Ext b μ F H h μ1 F1 H1 h1) (hb : b' ≤ b) : Ext b' μ F H h μ1 F1 H1 h1 := ⟨x.pre, x.fz, x.frame, x.dom, x.newF, fun k o hk q => x.keep k o (Nat.lt_of_lt_of_le hk hb) q, x.st⟩
/-- an own object is frozen where it stands -/
theorem RelH.fzOwn (r : RelH ca μ F h H) {n : Nat} {a : Addr} {o : O} {u : HO} (e : μ[n]? = some a) (e0 : h[n]? = some o) (n0 : o ≠ .dead) (hu : H a = some u) : RelH ca μ (L2.upd F a u) (h.set n .dead) H := by
  have hF := r.sep n a o e e0 n0
  have hs : Same F (L2.upd F a u) := fun x w q => by rw [upd_ne (ne_of_none q hF)]; exact q
  refine ⟨by simp [r.len], r.nd, fun x w q => ?_, fun k x o' e1 e2 e3 => ?_, r.dom, fun k x o' e1 e2 => ?_⟩
  · by_cases hx : x = a
    · subst hx; rw [upd_same] at q; cases q; exact hu
    · rw [upd_ne hx] at q; exact r.fz x w q
  · by_cases hk : n = k
    · subst hk
      have hl := (List.getElem?_eq_some_iff.mp e2).1
      rw [List.length_set] at hl
      rw [List.getElem?_set_self hl] at e2
      cases e2
      exact absurd rfl e3
    · rw [List.getElem?_set_ne hk] at e2
      have hne : x ≠ a := by
        rintro rfl
        obtain ⟨l1, q1⟩ := List.getElem?_eq_some_iff.mp e
        obtain ⟨l2, q2⟩ := List.getElem?_eq_some_iff.mp e1
        exact hk ((List.getElem_inj r.nd).mp (q1.trans q2.symm))
      rw [upd_ne hne]
      exact r.sep k x o' e1 e2 e3
  · by_cases hk : n = k
    · subst hk
      have hl := (List.getElem?_eq_some_iff.mp e2).1
      rw [List.length_set] at hl
      rw [List.getElem?_set_self hl] at e2
      cases e2
      exact True.intro
    · rw [List.getElem?_set_ne hk] at e2
      exact (r.ob k x o' e1 e2).mono (fun _ _ q => q) hs fun _ q => q
theorem Ext.fzOwn (x : Ext b μ F H h μ1 F1 H1 h1) (r1 : RelH ca μ1 F1 h1 H1) {n : Nat} {a : Addr} {o : O} {u : HO} (e : μ1[n]? = some a) (e0 : h1[n]? = some o) (n0 : o ≠ .dead) (n1 : stb o = false) : Ext b μ F H h μ1 (L2.upd F1 a u) H1 (h1.set n .dead) := by
  have hF := r1.sep n a o e e0 n0
  have ha : a ∈ μ1 := List.mem_of_getElem? e
  obtain ⟨m, e1, e2⟩ := x.pre
  refine ⟨x.pre, fun y w q => ?_, x.frame, x.dom, fun y q => ?_, fun k o' hk q => ?_, fun k y o' f1 f2 f3 => ?_⟩
  · have := x.fz y w q
    rw [upd_ne (ne_of_none this hF)]; exact this
  · by_cases hy : y = a
    · subst hy
      rw [e1] at ha
      rcases List.mem_append.mp ha with z | z
      · exact .inr (.inl z)
      · exact .inr (.inr (.inl (e2 _ z)))
    · rw [upd_ne hy] at q; exact x.newF y q
  · by_cases hn : n = k
    · subst hn
      have hl := (List.getElem?_eq_some_iff.mp q).1
      rw [List.length_set] at hl
      rw [List.getElem?_set_self hl] at q
      cases q
      exact .inr (.inl rfl)
    · rw [List.getElem?_set_ne hn] at q
      exact x.keep k o' hk q
  · obtain ⟨w1, w2⟩ := x.st k y o' f1 f2 f3
    have hn : n ≠ k := by
      rintro rfl
      rw [e0] at w1; cases w1
      rw [n1] at f3; cases f3
    exact ⟨by rw [List.getElem?_set_ne hn]; exact w1, w2⟩
/-- an own thing is no tuple -/
theorem OR.noTup {a : Addr} {o : O} {xs : List V} (h : OR ca μ F H a o) (n0 : o ≠ .dead) (e : H a = some (.tup xs)) : False := by
  cases o with
  | lst _ => obtain ⟨_, q, _⟩ := h; rw [e] at q; cases q
  | dK _ => obtain ⟨_, q, _⟩ := h; rw [e] at q; cases q
  | dT _ => obtain ⟨_, q, _⟩ := h; rw [e] at q; cases q
  | ins _ _ => obtain ⟨_, _, q, _⟩ := h; rw [e] at q; cases q
  | lkK _ => obtain ⟨_, _, q, _⟩ := h; rw [e] at q; cases q
  | lkT _ => obtain ⟨_, _, q, _⟩ := h; rw [e] at q; cases q
  | tb _ => obtain ⟨_, _, q, _⟩ := h; rw [e] at q; cases q
  | dN _ => obtain ⟨_, q, _⟩ := h; rw [e] at q; unfold NDict at q; cases q
  | dead => exact n0 rfl
/-- a tuple that stands is taken into the frozen part -/
theorem RelH.fzTup (r : RelH ca μ F h H) {a : Addr} {xs : List V} (e : H a = some (.tup xs)) : ∃ F', F' a = some (.tup xs) ∧ RelH ca μ F' h H ∧ ∀ b, Ext b μ F H h μ F' H h := by
  cases q : F a with
  | some w =>
    have := r.fz a w q
    rw [e] at this; cases this
    exact ⟨F, q, r, fun b => Ext.refl⟩
  | none =>
    have hs : Same F (L2.upd F a (.tup xs)) := fun x w q' => by rw [upd_ne (ne_of_none q' q)]; exact q'
    refine ⟨L2.upd F a (.tup xs), upd_same, ⟨r.len, r.nd, fun x w q' => ?_, fun n x o e1 e2 e3 => ?_, r.dom, fun n x o e1 e2 => (r.ob n x o e1 e2).mono (fun _ _ z => z) hs fun _ z => z⟩, fun b => ⟨⟨[], by simp, by simp⟩, hs, fun _ _ z _ => z, fun _ z => z, fun x q' => ?_, fun _ _ _ z => .inl z, fun _ _ _ _ z _ => ⟨z, fun _ z => z⟩⟩⟩
    · by_cases hx : x = a
      · subst hx; rw [upd_same] at q'; cases q'; exact e
      · rw [upd_ne hx] at q'; exact r.fz x w q'
    · have hne : x ≠ a := by rintro rfl; exact (r.ob n x o e1 e2).noTup e3 e
      rw [upd_ne hne]; exact r.sep n x o e1 e2 e3
    · by_cases hx : x = a
      · subst hx; exact .inr (.inr (.inr (.inl ⟨xs, e⟩)))
      · rw [upd_ne hx] at q'; exact .inl q'
/-- a new object of nobody changes -/
theorem RelH.updFree (r : RelH ca μ F h H) {a : Addr} {u : HO} (h1 : a ∉ μ) (h2 : F a = none) : RelH ca μ F h (L2.upd H a u) := by
  refine ⟨r.len, r.nd, fun x w q => by rw [upd_ne (ne_of_none q h2)]; exact r.fz x w q, r.sep, fun x hx => ?_, fun n x o' e1 e2 => (r.ob n x o' e1 e2).mono (fun _ _ q => q) (Same.refl _) fun w q => ?_⟩
  · rw [upd_ne (show x ≠ a by rintro rfl; exact h1 hx)]; exact r.dom x hx
  · rw [upd_ne (show x ≠ a by rintro rfl; exact h1 (List.mem_of_getElem? e1))]; exact q
theorem Ext.updFree (x : Ext b μ F H h μ1 F1 H1 h1) {a : Addr} {u : HO} (ha : H a = none) : Ext b μ F H h μ1 F1 (L2.upd H1 a u) h1 := by
  refine ⟨x.pre, x.fz, fun y w q hy => ?_, fun y q => ?_, x.newF, x.keep, fun n y o' f1 f2 f3 => ⟨(x.st n y o' f1 f2 f3).1, fun w z => ?_⟩⟩
  · rw [upd_ne (ne_of_none q ha)]; exact x.frame y w q hy
  · by_cases hy : y = a
    · subst hy; rw [upd_same]; simp
    · rw [upd_ne hy]; exact x.dom y q
  · rw [upd_ne (ne_of_none z ha)]
    exact (x.st n y o' f1 f2 f3).2 w z
end
end Z
set_option Elab.async false
set_option linter.all false
set_option maxRecDepth 100000
set_option maxHeartbeats 1000000
/-! Z2: judgements; expressions. -/
namespace Z
open PySem PySem.Spec L2

/-- what is wanted behind a run -/
def PostG {α : Type} (ca : Cn) (b : Nat) (μ : List Addr) (F H : Hp) (h : Own) (r : Res α) (W : Nat → Hp → Prop) (K : α → List Addr → Hp → Hp → Own → Prop) : Prop :=
  match r with
  | .ok a h1 => ∀ μ1 F1 H1, Ext b μ F H h μ1 F1 H1 h1 → RelH ca μ1 F1 h1 H1 → K a μ1 F1 H1 h1
  | .exc c h1 => ∀ μ1 F1 H1, Ext b μ F H h μ1 F1 H1 h1 → RelH ca μ1 F1 h1 H1 → W c H1
  | .stuck => False
section
variable {α β : Type} {ca : Cn} {b : Nat} {μ : List Addr} {F H : Hp} {h : Own} {W : Nat → Hp → Prop}
theorem PostG.bind {x : Res α} {f : α → Own → Res β} {K : β → List Addr → Hp → Hp → Own → Prop} (p : PostG ca b μ F H h (x.bind f) W K) :
    PostG ca b μ F H h x W fun a μ1 F1 H1 h1 => PostG ca b μ1 F1 H1 h1 (f a h1) W K := by
  cases x with
  | stuck => exact p
  | exc c h1 => exact p
  | ok a h1 =>
    intro μ1 F1 H1 E1 R1
    have p' : PostG ca b μ F H h (f a h1) W K := p
    cases e : f a h1 with
    | stuck => rw [e] at p'; exact p'
    | exc c h2 => rw [e] at p'; exact fun μ2 F2 H2 E2 R2 => p' μ2 F2 H2 (E1.trans E2) R2
    | ok a2 h2 => rw [e] at p'; exact fun μ2 F2 H2 E2 R2 => p' μ2 F2 H2 (E1.trans E2) R2
theorem PostG.imp {r : Res α} {K K' : α → List Addr → Hp → Hp → Own → Prop} (p : PostG ca b μ F H h r W K)
    (i : ∀ a μ1 F1 H1 h1, Ext b μ F H h μ1 F1 H1 h1 → RelH ca μ1 F1 h1 H1 → K a μ1 F1 H1 h1 → K' a μ1 F1 H1 h1) : PostG ca b μ F H h r W K' := by
  cases r with
  | stuck => exact p
  | exc c h1 => exact p
  | ok a h1 => exact fun μ1 F1 H1 E1 R1 => i a μ1 F1 H1 h1 E1 R1 (p μ1 F1 H1 E1 R1)
theorem PostG.ok {a : α} {K : α → List Addr → Hp → Hp → Own → Prop} (p : PostG ca b μ F H h (.ok a h) W K) (R : RelH ca μ F h H) : K a μ F H h := p μ F H Ext.refl R
end
/-- own state and HandS' state -/
structure At (ca : Cn) (μ : List Addr) (F : Hp) (τ : Fm) (h : Own) (σ : L2.St) (H : Hp) : Prop where
  rel : RelH ca μ F h H
  sl : SR ca μ F τ.s σ
  bl : τ.b ≤ h.length
theorem At.ext {ca : Cn} {μ μ1 : List Addr} {F F1 : Hp} {τ : Fm} {h h1 : Own} {σ : L2.St} {H H1 : Hp} {b : Nat} (a : At ca μ F τ h σ H) (e : Ext b μ F H h μ1 F1 H1 h1) (r : RelH ca μ1 F1 h1 H1) : At ca μ1 F1 τ h1 σ H1 :=
  ⟨r, e.sr a.sl, Nat.le_trans a.bl (e.len a.rel r)⟩
abbrev EX := Fm → Own → Res R
abbrev ED := Fm → Own → Res D
abbrev EA := Fm → Own → Res (List D)
abbrev EB := Fm → Own → Res Bool
abbrev WF := L2.WX
def wx (ca : Cn) (W : WF) (σ : L2.St) : Nat → Hp → Prop := fun c H => W (.ref (ca.ad c)) none σ H
def rdE (ca : Cn) (W : WF) (x : EX) : TE := fun σ H Q => ∃ μ F τ h, At ca μ F τ h σ H ∧ PostG ca τ.b μ F H h (x τ h) (wx ca W σ) fun r μ1 F1 H1 _ => ∀ v, RR ca μ1 F1 H H1 v r → Q v H1
def rdD (ca : Cn) (W : WF) (x : ED) : TE := fun σ H Q => ∃ μ F τ h, At ca μ F τ h σ H ∧ PostG ca τ.b μ F H h (x τ h) (wx ca W σ) fun d μ1 F1 H1 _ => ∀ v, VR ca μ1 F1 v d → Q v H1
def rdA (ca : Cn) (W : WF) (x : EA) : TA := fun σ H Q => ∃ μ F τ h, At ca μ F τ h σ H ∧ PostG ca τ.b μ F H h (x τ h) (wx ca W σ) fun ds μ1 F1 H1 _ => ∀ vs, VRs ca μ1 F1 vs ds → Q vs H1
def rdB (ca : Cn) (W : WF) (x : EB) : TT := fun σ H Q => ∃ μ F τ h, At ca μ F τ h σ H ∧ PostG ca τ.b μ F H h (x τ h) (wx ca W σ) fun k _ _ H1 _ => Q k H1
def SE (ca : Cn) (X : Cx) (W : WF) (e : Expr) (x : EX) : Prop := PE X e (rdE ca W x)
def SD (ca : Cn) (X : Cx) (W : WF) (e : Expr) (x : ED) : Prop := PE X e (rdD ca W x)
def SA (ca : Cn) (X : Cx) (W : WF) (e : List Expr) (x : EA) : Prop := PA X e (rdA ca W x)
def SB (ca : Cn) (X : Cx) (W : WF) (e : Expr) (x : EB) : Prop := PT X e (rdB ca W x)
def SW (ca : Cn) (X : Cx) (W : WF) (e : Expr) (x : EB) : Prop := PW X e (rdB ca W x)
theorem PE.imp {X : Cx} {e : Expr} {t t' : TE} (h : PE X e t) (i : ∀ σ H Q, t' σ H Q → t σ H Q) : PE X e t' := ⟨fun pins s σ H Q I q => h.run pins s σ H Q I (i σ H Q q)⟩
theorem PT.imp {X : Cx} {e : Expr} {t t' : TT} (h : PT X e t) (i : ∀ σ H Q, t' σ H Q → t σ H Q) : PT X e t' := ⟨fun pins s σ H Q I q => h.run pins s σ H Q I (i σ H Q q)⟩
theorem PW.imp {X : Cx} {e : Expr} {t t' : TT} (h : PW X e t) (i : ∀ σ H Q, t' σ H Q → t σ H Q) : PW X e t' := ⟨fun wh pins s σ H Q I q => h.run wh pins s σ H Q I (i σ H Q q)⟩
theorem PA.imp {X : Cx} {e : List Expr} {t t' : TA} (h : PA X e t) (i : ∀ σ H Q, t' σ H Q → t σ H Q) : PA X e t' := ⟨fun pos pins s σ H Q I q => h.run pos pins s σ H Q I (i σ H Q q)⟩
theorem PS.imp {X : Cx} {e : Stmt} {t t' : TS} (h : PS X e t) (i : ∀ D σ H, t' D σ H → t D σ H) : PS X e t' := ⟨fun pins s σ H Q I q => h.run pins s σ H Q I (i Q σ H q)⟩
theorem PSs.imp {X : Cx} {e : List Stmt} {t t' : TS} (h : PSs X e t) (i : ∀ D σ H, t' D σ H → t D σ H) : PSs X e t' := ⟨fun pins s σ H Q I q => h.run pins s σ H Q I (i Q σ H q)⟩

/-! ### values and new objects -/
def frzO : O → Option D
  | .lst ds => some (.lst ds)
  | .dK k => some (.dK k)
  | .dT k => some (.dT k)
  | .ins c fs => some (.obj c fs)
  | .dead => none
  | .lkK _ => none
  | .lkT _ => none
  | .tb _ => none
  | .dN _ => none
/-- the outcome frozen -/
def ed (x : EX) : ED := fun τ h => (x τ h).bind fun r h1 => match r with
  | .v d => .ok d h1
  | .n o => match frzO o with
    | some d => .ok d h1
    | none => .stuck
def ev (x : ED) : EX := fun τ h => (x τ h).bind fun d h1 => .ok (.v d) h1
section
variable {ca : Cn} {X : Cx} {W : WF} {e : Expr}
theorem frz_ok {μ : List Addr} {F H : Hp} {a : Addr} {o : O} {d : D} (ho : OR ca μ F H a o) (e : frzO o = some d) (hF : F a = none) : ∃ u, H a = some u ∧ VR ca μ (upd F a u) (.ref a) d := by
  have hs : ∀ u, Same F (upd F a u) := fun u x w q => by rw [upd_ne (ne_of_none q hF)]; exact q
  cases o with
  | lst ds =>
    obtain ⟨vs, q, r⟩ := ho
    cases e
    exact ⟨_, q, .lst upd_same (r.mono (fun _ _ z => z) (hs _))⟩
  | dK ds =>
    obtain ⟨vs, q, k, r⟩ := ho
    cases e
    exact ⟨_, q, .dK upd_same k (r.mono (fun _ _ z => z) (hs _))⟩
  | dT ds =>
    obtain ⟨vs, q, k, r⟩ := ho
    cases e
    exact ⟨_, q, .dT upd_same k (r.mono (fun _ _ z => z) (hs _))⟩
  | ins c ds =>
    obtain ⟨dx, vs, q, k, r⟩ := ho
    cases e
    exact ⟨_, q, .obj upd_same k (r.mono (fun _ _ z => z) (hs _))⟩
  | dead => cases e
  | lkK _ => cases e
  | lkT _ => cases e
  | tb _ => cases e
  | dN _ => cases e
/-- from a wish about what is frozen to one about the outcome -/
theorem frz_post {b : Nat} {μ : List Addr} {F H : Hp} {h : Own} {Wx : Nat → Hp → Prop} {r : Res R} {Q : VK}
    (p : PostG ca b μ F H h (r.bind fun r h1 => match r with | .v d => .ok d h1 | .n o => match frzO o with | some d => .ok d h1 | none => .stuck) Wx fun d μ1 F1 H1 _ => ∀ v, VR ca μ1 F1 v d → Q v H1) :
    PostG ca b μ F H h r Wx fun r μ1 F1 H1 _ => ∀ v, RR ca μ1 F1 H H1 v r → Q v H1 := by
  cases r with
  | stuck => exact p
  | exc c h1 => exact p
  | ok a h1 =>
    intro μ1 F1 H1 E1 R1 v V
    cases a with
    | v d => exact p μ1 F1 H1 E1 R1 v V
    | n o =>
      have p' : PostG ca b μ F H h (match frzO o with | some d => .ok d h1 | none => .stuck) Wx fun d μ1 F1 H1 _ => ∀ v, VR ca μ1 F1 v d → Q v H1 := p
      cases hf : frzO o with
      | none => rw [hf] at p'; exact p'.elim
      | some d =>
        rw [hf] at p'
        obtain ⟨a, rfl, h0, hd, hm, hF, ho⟩ := V
        obtain ⟨u, hu, hv⟩ := frz_ok ho hf hF
        exact p' μ1 _ H1 (E1.freeze h0 hF) (R1.freeze hu hm hF) _ hv
theorem SD.of {x : EX} (h : SE ca X W e x) : SD ca X W e (ed x) := PE.imp h fun σ H Q ⟨μ, F, τ, h, A, p⟩ => ⟨μ, F, τ, h, A, frz_post p⟩
theorem SE.of {x : ED} (h : SD ca X W e x) : SE ca X W e (ev x) := PE.imp h fun σ H Q ⟨μ, F, τ, h, A, p⟩ => ⟨μ, F, τ, h, A, by
  have p' := p.bind
  exact p'.imp fun d μ1 F1 H1 h1 E1 R1 q v V => q.ok R1 v V⟩

/-! ### names, constants -/
def eVar (i : Nat) : ED := fun τ h => match τ.s[i]? with
  | some (some d) => .ok d h
  | _ => .stuck
def eC (d : D) : ED := fun _ h => .ok d h
theorem sd_var {i : Nat} {x : Str} {pos : Pos} (h : PE X (.Name x pos) (tVar i)) : SD ca X W (.Name x pos) (eVar i) := PE.imp h fun σ H Q ⟨μ, F, τ, h, A, p⟩ => by
  unfold eVar at p
  split at p
  · rename_i d e
    obtain ⟨v, e1, r⟩ := A.sl.2 i d e
    exact ⟨v, e1, p.ok A.rel v r⟩
  · exact p.elim
theorem sd_int {i j pos} : SD ca X W (.Constant (.int i) j pos) (eC (.int i)) := PE.imp pe_int fun σ H Q ⟨μ, F, τ, h, A, p⟩ => p.ok A.rel _ (.int i)
theorem sd_bl {i j pos} : SD ca X W (.Constant (.bool i) j pos) (eC (.bl i)) := PE.imp pe_bl fun σ H Q ⟨μ, F, τ, h, A, p⟩ => p.ok A.rel _ (.bl i)
theorem sd_non {j pos} : SD ca X W (.Constant .none j pos) (eC .non) := PE.imp pe_non fun σ H Q ⟨μ, F, τ, h, A, p⟩ => p.ok A.rel _ .non
theorem sd_str {i j pos} : SD ca X W (.Constant (.str i) j pos) (eC (.str i)) := PE.imp pe_str fun σ H Q ⟨μ, F, τ, h, A, p⟩ => p.ok A.rel _ (.str i)
/-- a constant of the module: an int, a bool, a text -/
theorem sd_glob {x : Str} {d : D} {v : V} {pos : Pos} (h : PE X (.Name x pos) (tC v)) (r : ∀ μ F, VR ca μ F v d) : SD ca X W (.Name x pos) (eC d) := PE.imp h fun σ H Q ⟨μ, F, τ, h, A, p⟩ => p.ok A.rel _ (r μ F)

/-! ### operators on values -/
abbrev F2 := D → D → Own → Res R
/-- f is what the operator with the reading r does -/
def Lk2 (ca : Cn) (f : F2) (r : R2) : Prop := ∀ (b : Nat) (μ : List Addr) (F H : Hp) (h : Own) (Wx : Nat → Hp → Prop) (x y : V) (c d : D) (Q : VK), RelH ca μ F h H → VR ca μ F x c → VR ca μ F y d → b ≤ h.length →
  PostG ca b μ F H h (f c d h) Wx (fun r μ1 F1 H1 _ => ∀ v, RR ca μ1 F1 H H1 v r → Q v H1) → r x y H Q
def e2 (f : F2) (a b : ED) : EX := fun τ h => (a τ h).bind fun x h1 => (b τ h1).bind fun y h2 => f x y h2
theorem lk_op {f : F2} {r : R2} {ta tb : ED} (lk : Lk2 ca f r) : ∀ σ H Q, rdE ca W (e2 f ta tb) σ H Q → tOp r (rdD ca W ta) (rdD ca W tb) σ H Q := fun σ H Q ⟨μ, F, τ, h, A, p⟩ =>
  ⟨μ, F, τ, h, A, p.bind.imp fun c μ1 F1 H1 h1 E1 R1 q v V => ⟨μ1, F1, τ, h1, A.ext E1 R1, q.bind.imp fun d μ2 F2 H2 h2 E2 R2 q2 w V2 =>
    lk τ.b μ2 F2 H2 h2 _ v w c d Q R2 (E2.vr V) V2 (Nat.le_trans A.bl (Nat.le_trans (E1.len A.rel R1) (E2.len R1 R2))) (q2.imp fun r μ3 F3 H3 h3 E3 R3 q3 u V3 => q3 u (RR.back E1 (RR.back E2 V3)))⟩⟩
theorem se_op {op : Operator} {a b : Expr} {pos : Pos} {f : F2} {r : R2} {ta tb : ED} (ho : OpR X (binaryOp op) r) (lk : Lk2 ca f r) (ha : SD ca X W a ta) (hb : SD ca X W b tb) : SE ca X W (.BinOp a op b pos) (e2 f ta tb) := PE.imp (pe_op ho ha hb) (lk_op lk)
theorem se_cmp {op : CmpOp} {a b : Expr} {pos : Pos} {f : F2} {r : R2} {ta tb : ED} (ho : OpR X (compareOp op) r) (lk : Lk2 ca f r) (ha : SD ca X W a ta) (hb : SD ca X W b tb) (hm : behindInMarks op b = false) : SE ca X W (.Compare a [op] [b] pos) (e2 f ta tb) := PE.imp (pe_cmpR ho ha hb hm) (lk_op lk)
theorem Lk2.or {f g : F2} {r s : R2} (a : Lk2 ca f r) (b : Lk2 ca g s) : Lk2 ca (fun x y h => match f x y h with | .stuck => g x y h | z => z) (fun x y H Q => r x y H Q ∨ s x y H Q) := by
  intro n μ F H h Wx x y c d Q R V1 V2 hb p
  cases e : f c d h with
  | stuck => simp only [e] at p; exact .inr (b n μ F H h Wx x y c d Q R V1 V2 hb p)
  | ok _ _ => simp only [e] at p; exact .inl (a n μ F H h Wx x y c d Q R V1 V2 hb (by rw [e]; exact p))
  | exc _ _ => simp only [e] at p; exact .inl (a n μ F H h Wx x y c d Q R V1 V2 hb (by rw [e]; exact p))
def fI (g : Int → Int → D) : F2
  | .int i, .int j, h => .ok (.v (g i j)) h
  | _, _, _ => .stuck
def fIc (C : Int → Int → Bool) (g : Int → Int → D) : F2
  | .int i, .int j, h => if C i j = true then .ok (.v (g i j)) h else .stuck
  | _, _, _ => .stuck
theorem lkI {g : Int → Int → V} {g' : Int → Int → D} (hg : ∀ i j μ F, VR ca μ F (g i j) (g' i j)) : Lk2 ca (fI g') (rI0 g) := by
  intro b μ F H h Wx x y c d Q R V1 V2 _ p
  cases V1 <;> first | exact p.elim | skip
  cases V2 <;> first | exact p.elim | skip
  exact ⟨_, _, rfl, rfl, p.ok R _ (hg _ _ _ _)⟩
theorem lkIc {C : Int → Int → Prop} {C' : Int → Int → Bool} {g : Int → Int → V} {g' : Int → Int → D} (hc : ∀ i j, C' i j = true → C i j) (hg : ∀ i j μ F, VR ca μ F (g i j) (g' i j)) : Lk2 ca (fIc C' g') (rI C g) := by
  intro b μ F H h Wx x y c d Q R V1 V2 _ p
  cases V1 with
  | int i =>
    cases V2 with
    | int j =>
      have p' : PostG ca b μ F H h (if C' i j = true then .ok (.v (g' i j)) h else .stuck) Wx (fun r μ1 F1 H1 _ => ∀ v, RR ca μ1 F1 H H1 v r → Q v H1) := p
      by_cases hC : C' i j = true
      · rw [if_pos hC] at p'
        exact ⟨_, _, rfl, rfl, hc _ _ hC, p'.ok R _ (hg _ _ _ _)⟩
      · rw [if_neg hC] at p'
        exact p'.elim
    | _ => exact (show False from p).elim
  | _ => exact (show False from p).elim
end
end Z
set_option Elab.async false
set_option linter.all false
set_option maxRecDepth 100000
set_option maxHeartbeats 1000000
/-! Z3: operators. -/
namespace Z
open PySem PySem.Spec L2
section
variable {ca : Cn} {X : Cx} {W : WF}
def fSub : F2 := fI fun i j => .int (i - j)
def fMul : F2 := fIc (fun i j => decide (-(2 ^ 64) < i ∧ i < 2 ^ 64) || decide (-(2 ^ 64) < j ∧ j < 2 ^ 64)) fun i j => .int (i * j)
def fDiv : F2 := fIc (fun _ j => decide (0 < j) && decide (j < 1073741824)) fun i j => .int (i / j)
def fMod : F2 := fIc (fun _ j => decide (0 < j)) fun i j => .int (i % j)
def fPow : F2 := fIc (fun i j => decide (0 ≤ j) && decide (j ≤ 1000000) && decide (i.natAbs < 2 ^ 64)) fun i j => .int (i ^ j.toNat)
def fShl : F2 := fIc (fun i j => decide (0 ≤ j) && decide (j ≤ 1000000) && decide (i.natAbs < 2 ^ 64)) fun i j => .int (i * 2 ^ j.toNat)
def fShr : F2 := fIc (fun _ j => decide (0 ≤ j)) fun i j => .int (i / 2 ^ j.toNat)
def fAnd : F2 := fI fun i j => .int (Builtin.bitAnd i j)
def fOr : F2 := fI fun i j => .int (Builtin.bitOr i j)
def fLt : F2 := fI fun i j => .bl (decide (i < j))
def fLe : F2 := fI fun i j => .bl (decide (i ≤ j))
def fGt : F2 := fI fun i j => .bl (decide (j < i))
def fGe : F2 := fI fun i j => .bl (decide (j ≤ i))
theorem lk_sub : Lk2 ca fSub (rI0 fun i j => .int (i - j)) := lkI fun i j _ _ => .int _
theorem lk_mul : Lk2 ca fMul (rI CMul fun i j => .int (i * j)) := lkIc (fun i j q => by simpa [CMul] using q) fun i j _ _ => .int _
theorem lk_div : Lk2 ca fDiv (rI CDiv fun i j => .int (i / j)) := lkIc (fun i j q => by simpa [CDiv] using q) fun i j _ _ => .int _
theorem lk_mod : Lk2 ca fMod (rI (fun _ j => 0 < j) fun i j => .int (i % j)) := lkIc (fun i j q => by simpa using q) fun i j _ _ => .int _
theorem lk_pow : Lk2 ca fPow (rI CPow fun i j => .int (i ^ j.toNat)) := lkIc (fun i j q => by simpa [CPow, and_assoc] using q) fun i j _ _ => .int _
theorem lk_shl : Lk2 ca fShl (rI CPow fun i j => .int (i * 2 ^ j.toNat)) := lkIc (fun i j q => by simpa [CPow, and_assoc] using q) fun i j _ _ => .int _
theorem lk_shr : Lk2 ca fShr (rI (fun _ j => 0 ≤ j) fun i j => .int (i / 2 ^ j.toNat)) := lkIc (fun i j q => by simpa using q) fun i j _ _ => .int _
theorem lk_and : Lk2 ca fAnd (rI0 fun i j => .int (Builtin.bitAnd i j)) := lkI fun i j _ _ => .int _
theorem lk_or : Lk2 ca fOr (rI0 fun i j => .int (Builtin.bitOr i j)) := lkI fun i j _ _ => .int _
theorem lk_lt : Lk2 ca fLt (rI0 fun i j => .bl (decide (i < j))) := lkI fun i j _ _ => .bl _
theorem lk_le : Lk2 ca fLe (rI0 fun i j => .bl (decide (i ≤ j))) := lkI fun i j _ _ => .bl _
theorem lk_gt : Lk2 ca fGt (rI0 fun i j => .bl (decide (j < i))) := lkI fun i j _ _ => .bl _
theorem lk_ge : Lk2 ca fGe (rI0 fun i j => .bl (decide (j ≤ i))) := lkI fun i j _ _ => .bl _

/-! ### sequences -/
/-- a list's items -/
def asL (h : Own) : D → Option (List D)
  | .lst ds => some ds
  | .ref n => match h[n]? with
    | some (.lst ds) => some ds
    | _ => none
  | _ => none
def asQ (h : Own) : D → Option (List D)
  | .tup ds => some ds
  | d => asL h d
theorem asL_ok {μ : List Addr} {F H : Hp} {h : Own} {v : V} {d : D} {ds : List D} (R : RelH ca μ F h H) (V1 : VR ca μ F v d) (e : asL h d = some ds) : ∃ a vs, v = .ref a ∧ H a = some (.lst vs) ∧ VRs ca μ F vs ds := by
  cases V1 with
  | lst q r => cases e; exact ⟨_, _, rfl, R.fz _ _ q, r⟩
  | ref q =>
    rename_i a n
    unfold asL at e
    dsimp only at e
    split at e
    · rename_i ds' q2
      cases e
      obtain ⟨vs, q3, r⟩ := R.ob n _ _ q q2
      exact ⟨_, vs, rfl, q3, r⟩
    · cases e
  | _ => cases e
theorem asQ_ok {μ : List Addr} {F H : Hp} {h : Own} {v : V} {d : D} {ds : List D} (R : RelH ca μ F h H) (V1 : VR ca μ F v d) (e : asQ h d = some ds) : ∃ a vs, v = .ref a ∧ (H a = some (.lst vs) ∨ H a = some (.tup vs)) ∧ VRs ca μ F vs ds := by
  cases V1 with
  | tup q r => cases e; exact ⟨_, _, rfl, .inr (R.fz _ _ q), r⟩
  | lst q r => cases e; exact ⟨_, _, rfl, .inl (R.fz _ _ q), r⟩
  | ref q =>
    obtain ⟨a, vs, e1, e2, e3⟩ := asL_ok R (.ref q) (ds := ds) e
    exact ⟨a, vs, e1, .inl e2, e3⟩
  | _ => cases e
theorem SqQ {K : PySem.W.Frag} {H : Hp} {a : Addr} {vs : List V} (h : H a = some (.lst vs) ∨ H a = some (.tup vs)) : SqL K H a vs ∨ SqT K H a vs := h.elim (fun z => .inl (SqL.of z)) fun z => .inr (SqT.of z)
/-- a new frozen object -/
theorem fzNew {b : Nat} {μ : List Addr} {F H : Hp} {h : Own} (R : RelH ca μ F h H) {p : Addr} (hp : H p = none) (u : HO) : Ext b μ F H h μ (upd F p u) (upd H p u) h ∧ RelH ca μ (upd F p u) h (upd H p u) := by
  have hF : F p = none := by
    cases q : F p with
    | none => rfl
    | some w => have := R.fz _ _ q; rw [hp] at this; cases this
  have hm : p ∉ μ := fun z => R.dom p z hp
  exact ⟨((Ext.refl (b := b) (μ := μ) (F := F) (H := H) (h := h)).upd hp).freeze hp hF, (R.upd hp).freeze upd_same hm hF⟩
/-- a new object of nobody -/
theorem neNew {b : Nat} {μ : List Addr} {F H : Hp} {h : Own} (R : RelH ca μ F h H) {p : Addr} (hp : H p = none) (u : HO) {o : O} (ho : ∀ H', H' p = some u → OR ca μ F H' p o) :
    Ext b μ F H h μ F (upd H p u) h ∧ RelH ca μ F h (upd H p u) ∧ RR ca μ F H (upd H p u) (.ref p) (.n o) := by
  have hF : F p = none := by
    cases q : F p with
    | none => rfl
    | some w => have := R.fz _ _ q; rw [hp] at this; cases this
  have hm : p ∉ μ := fun z => R.dom p z hp
  exact ⟨(Ext.refl (b := b) (μ := μ) (F := F) (H := H) (h := h)).upd hp, R.upd hp, p, rfl, hp, (by rw [upd_same]; simp), hm, hF, ho _ upd_same⟩
/-- the wish at a new list -/
theorem new_lst {b : Nat} {μ : List Addr} {F H : Hp} {h : Own} {Wx : Nat → Hp → Prop} {Q : VK} {ds : List D} {vs : List V} (R : RelH ca μ F h H) (r : VRs ca μ F vs ds)
    (p : PostG ca b μ F H h (.ok (.n (.lst ds)) h) Wx fun r μ1 F1 H1 _ => ∀ v, RR ca μ1 F1 H H1 v r → Q v H1) {l : Addr} (hl : H l = none) : Q (.ref l) (upd H l (.lst vs)) := by
  obtain ⟨e, R1, w⟩ := neNew (b := b) R hl (.lst vs) (o := .lst ds) fun H' q => ⟨vs, q, r⟩
  exact p _ _ _ e R1 _ w
theorem new_tup {b : Nat} {μ : List Addr} {F H : Hp} {h : Own} {Wx : Nat → Hp → Prop} {Q : VK} {ds : List D} {vs : List V} (R : RelH ca μ F h H) (r : VRs ca μ F vs ds)
    (p : PostG ca b μ F H h (.ok (.v (.tup ds)) h) Wx fun r μ1 F1 H1 _ => ∀ v, RR ca μ1 F1 H H1 v r → Q v H1) {l : Addr} (hl : H l = none) : Q (.ref l) (upd H l (.tup vs)) := by
  obtain ⟨e, R1⟩ := fzNew (b := b) R hl (.tup vs)
  exact p _ _ _ e R1 _ (show VR ca _ _ _ _ from .tup upd_same (e.vrs r))

def f1 : F2 := fI fun i j => .int (i + j)
theorem lk_addI : Lk2 ca f1 (rI0 fun i j => .int (i + j)) := lkI fun i j _ _ => .int _
def fAddT : F2
  | .tup xs, .tup ys, h => if xs.length + ys.length ≤ sizeLine then .ok (.v (.tup (xs ++ ys))) h else .stuck
  | _, _, _ => .stuck
theorem lk_addT {K : PySem.W.Frag} : Lk2 ca fAddT (rCatA K) := by
  intro b μ F H h Wx x y c d Q R V1 V2 _ p
  cases V1 with
  | tup e1 r1 =>
    rename_i a vs xs
    cases V2 with
    | tup e2 r2 =>
      rename_i a2 vs2 ys
      have p' : PostG ca b μ F H h (if xs.length + ys.length ≤ sizeLine then .ok (.v (.tup (xs ++ ys))) h else .stuck) Wx (fun r μ1 F1 H1 _ => ∀ v, RR ca μ1 F1 H H1 v r → Q v H1) := p
      by_cases hC : xs.length + ys.length ≤ sizeLine
      · rw [if_pos hC] at p'
        refine ⟨a, a2, vs, vs2, rfl, rfl, SqT.of (R.fz _ _ e1), SqT.of (R.fz _ _ e2), by rw [r1.length, r2.length]; exact hC, fun z => ?_, fun _ z => ?_, fun _ _ l hl => new_tup R (r1.append r2) p' hl⟩
        · subst z
          cases r1
          exact p'.ok R _ (show VR ca _ _ _ _ from .tup e2 r2)
        · subst z
          cases r2
          refine p'.ok R _ (show VR ca _ _ _ _ from .tup e1 ?_)
          rw [List.append_nil]; exact r1
      · rw [if_neg hC] at p'
        exact p'.elim
    | _ => exact (show False from p).elim
  | _ => exact (show False from p).elim
def fAddS : F2
  | .str x, .str y, h => if x.length + y.length ≤ sizeLine then .ok (.v (.str (x ++ y))) h else .stuck
  | _, _, _ => .stuck
theorem lk_addS : Lk2 ca fAddS (fun x y H Q => ∃ i j, x = .str i ∧ y = .str j ∧ i.length + j.length ≤ sizeLine ∧ Q (.str (i ++ j)) H) := by
  intro b μ F H h Wx x y c d Q R V1 V2 _ p
  cases V1 with
  | str i =>
    cases V2 with
    | str j =>
      have p' : PostG ca b μ F H h (if i.length + j.length ≤ sizeLine then .ok (.v (.str (i ++ j))) h else .stuck) Wx (fun r μ1 F1 H1 _ => ∀ v, RR ca μ1 F1 H H1 v r → Q v H1) := p
      by_cases hC : i.length + j.length ≤ sizeLine
      · rw [if_pos hC] at p'
        exact ⟨_, _, rfl, rfl, hC, p'.ok R _ (.str _)⟩
      · rw [if_neg hC] at p'
        exact p'.elim
    | _ => exact (show False from p).elim
  | _ => exact (show False from p).elim
def fAddL : F2 := fun x y h => match asL h x, asL h y with
  | some xs, some ys => if xs.length + ys.length ≤ sizeLine then .ok (.n (.lst (xs ++ ys))) h else .stuck
  | _, _ => .stuck
theorem lk_addL : Lk2 ca fAddL rCat := by
  intro b μ F H h Wx x y c d Q R V1 V2 _ p
  unfold fAddL at p
  cases e1 : asL h c with
  | none => simp only [e1] at p; exact p.elim
  | some xs =>
    cases e2 : asL h d with
    | none => simp only [e1, e2] at p; exact p.elim
    | some ys =>
      simp only [e1, e2] at p
      obtain ⟨a, vs, rfl, q1, r1⟩ := asL_ok R V1 e1
      obtain ⟨a2, vs2, rfl, q2, r2⟩ := asL_ok R V2 e2
      by_cases hC : xs.length + ys.length ≤ sizeLine
      · rw [if_pos hC] at p
        exact ⟨a, a2, vs, vs2, rfl, rfl, q1, q2, by rw [r1.length, r2.length]; exact hC, fun l hl => new_lst R (r1.append r2) p hl⟩
      · rw [if_neg hC] at p
        exact p.elim
def orF (f g : F2) : F2 := fun x y h => match f x y h with | .stuck => g x y h | z => z
def fAdd : F2 := orF f1 (orF fAddT (orF fAddS fAddL))
theorem op_addA : OpR X (binaryOp .Add) (fun x y H Q => rI0 (fun i j => .int (i + j)) x y H Q ∨ rCatA X.K x y H Q ∨ (∃ i j, x = .str i ∧ y = .str j ∧ i.length + j.length ≤ sizeLine ∧ Q (.str (i ++ j)) H) ∨ rCat x y H Q) := op_add.or (op_catA.or (op_add_str.or op_cat))
theorem lk_add {K : PySem.W.Frag} : Lk2 ca fAdd (fun x y H Q => rI0 (fun i j => .int (i + j)) x y H Q ∨ rCatA K x y H Q ∨ (∃ i j, x = .str i ∧ y = .str j ∧ i.length + j.length ≤ sizeLine ∧ Q (.str (i ++ j)) H) ∨ rCat x y H Q) :=
  lk_addI.or (lk_addT.or (lk_addS.or lk_addL))
def fRep : F2 := fun x y h => match asL h x, y with
  | some xs, .int k => if -(2 ^ 63) ≤ k ∧ k < 2 ^ 63 ∧ xs.length * k.toNat ≤ sizeLine then .ok (.n (.lst (List.replicate k.toNat xs).flatten)) h else .stuck
  | _, _ => .stuck
theorem VRs.rep {μ : List Addr} {F : Hp} {vs : List V} {ds : List D} (r : VRs ca μ F vs ds) : ∀ k : Nat, VRs ca μ F (List.replicate k vs).flatten (List.replicate k ds).flatten
  | 0 => .nil
  | k + 1 => by
    rw [List.replicate_succ, List.replicate_succ, List.flatten_cons, List.flatten_cons]
    exact r.append (VRs.rep r k)

/-! ### what is equal -/
/-- data without dicts and objects, to a depth -/
def toP : Nat → D → Option PyData
  | _, .non => some .none
  | _, .bl b => some (.bool b)
  | _, .int i => some (.int i)
  | _, .str s => if PyData.strOk s = true then some (.str s) else none
  | 0, _ => none
  | k + 1, .tup ds => (ds.mapM (toP k)).map .tuple
  | k + 1, .lst ds => (ds.mapM (toP k)).map .list
  | _, _ => none
def toPh (h : Own) : D → Option PyData
  | .ref n => match h[n]? with
    | some (.lst ds) => (ds.mapM (toP 7)).map .list
    | _ => none
  | d => toP 8 d
theorem shape_ok : ∀ (k : Nat) (d : D) (p : PyData), toP k d = some p → p.canLay0 = true ∧ p.depth ≤ k := by
  intro k
  induction k with
  | zero =>
    intro d p e
    cases d with
    | str s =>
      rw [toP] at e
      by_cases q : PyData.strOk s = true
      · rw [if_pos q] at e; cases e; simp [PyData.canLay0, PyData.depth, q]
      · rw [if_neg q] at e; cases e
    | _ => simp [toP] at e <;> subst e <;> simp [PyData.canLay0, PyData.depth]
  | succ k ih =>
    have all : ∀ (ds : List D) (ps : List PyData), ds.mapM (toP k) = some ps → PyData.canLayAll0 ps = true ∧ PyData.depthAll ps ≤ k := by
      intro ds
      induction ds with
      | nil => intro ps e; simp at e; subst e; simp [PyData.canLayAll0, PyData.depthAll]
      | cons d ds ih2 =>
        intro ps e
        rw [List.mapM_cons] at e
        cases e1 : toP k d with
        | none => rw [e1] at e; cases e
        | some p =>
          cases e2 : ds.mapM (toP k) with
          | none => rw [e1, e2] at e; cases e
          | some ps' =>
            rw [e1, e2] at e
            have e' : p :: ps' = ps := Option.some.inj e
            subst e'
            obtain ⟨a1, a2⟩ := ih d p e1
            obtain ⟨b1, b2⟩ := ih2 ps' e2
            refine ⟨by simp [PyData.canLayAll0, a1, b1], ?_⟩
            simp only [PyData.depthAll]
            omega
    intro d p e
    cases d with
    | tup ds =>
      rw [toP] at e
      obtain ⟨ps, e1, rfl⟩ := Option.map_eq_some_iff.mp e
      obtain ⟨a, b⟩ := all ds ps e1
      exact ⟨by simp only [PyData.canLay0]; exact a, by simp only [PyData.depth]; omega⟩
    | lst ds =>
      rw [toP] at e
      obtain ⟨ps, e1, rfl⟩ := Option.map_eq_some_iff.mp e
      obtain ⟨a, b⟩ := all ds ps e1
      exact ⟨by simp only [PyData.canLay0]; exact a, by simp only [PyData.depth]; omega⟩
    | str s =>
      rw [toP] at e
      by_cases q : PyData.strOk s = true
      · rw [if_pos q] at e; cases e; simp [PyData.canLay0, PyData.depth, q]
      · rw [if_neg q] at e; cases e
    | _ => simp [toP] at e <;> subst e <;> simp [PyData.canLay0, PyData.depth]
theorem shaped_of {k : Nat} {d : D} {p : PyData} (e : toP k d = some p) (hk : k ≤ 64) : SeqAt.shaped p = true := by
  obtain ⟨a, b⟩ := shape_ok k d p e
  show (p.canLay0 && decide (p.depth ≤ 64)) = true
  rw [a, Bool.true_and]
  exact decide_eq_true (by omega)
theorem dp_ok {K : PySem.W.Frag} {μ : List Addr} {F H : Hp} (hF : Same F H) : ∀ (k : Nat) (d : D) (v : V) (p : PyData), VR ca μ F v d → toP k d = some p → Dp K H v p := by
  intro k
  induction k with
  | zero =>
    intro d v p r e
    cases r with
    | str s =>
      rw [toP] at e
      by_cases q : PyData.strOk s = true
      · rw [if_pos q] at e; cases e; exact .str s
      · rw [if_neg q] at e; cases e
    | non => cases e; exact .non
    | bl => cases e; exact .bl _
    | int => cases e; exact .int _
    | _ => cases e
  | succ k ih =>
    have all : ∀ (ds : List D) (vs : List V) (ps : List PyData), VRs ca μ F vs ds → ds.mapM (toP k) = some ps → DpAll K H vs ps := by
      intro ds
      induction ds with
      | nil => intro vs ps r e; cases r; simp at e; subst e; exact .nil
      | cons d ds ih2 =>
        intro vs ps r e
        rw [List.mapM_cons] at e
        cases r with
        | cons r1 r2 =>
        cases e1 : toP k d with
        | none => rw [e1] at e; cases e
        | some p =>
          cases e2 : ds.mapM (toP k) with
          | none => rw [e1, e2] at e; cases e
          | some ps' =>
            rw [e1, e2] at e
            have e' : p :: ps' = ps := Option.some.inj e
            subst e'
            exact .cons (ih _ _ _ r1 e1) (ih2 _ _ r2 e2)
    intro d v p r e
    cases r with
    | str s =>
      rw [toP] at e
      by_cases q : PyData.strOk s = true
      · rw [if_pos q] at e; cases e; exact .str s
      · rw [if_neg q] at e; cases e
    | non => cases e; exact .non
    | bl => cases e; exact .bl _
    | int => cases e; exact .int _
    | tup q r1 =>
      rw [toP] at e
      obtain ⟨ps, e1, rfl⟩ := Option.map_eq_some_iff.mp e
      exact .tup (SqT.of (hF _ _ q)) (all _ _ _ r1 e1)
    | lst q r1 =>
      rw [toP] at e
      obtain ⟨ps, e1, rfl⟩ := Option.map_eq_some_iff.mp e
      exact .lst (SqL.of (hF _ _ q)) (all _ _ _ r1 e1)
    | _ => cases e
theorem dpAll_ok {K : PySem.W.Frag} {μ : List Addr} {F H : Hp} (hF : Same F H) (k : Nat) : ∀ (ds : List D) (vs : List V) (ps : List PyData), VRs ca μ F vs ds → ds.mapM (toP k) = some ps → DpAll K H vs ps := by
  intro ds
  induction ds with
  | nil => intro vs ps r e; cases r; simp at e; subst e; exact .nil
  | cons d ds ih2 =>
    intro vs ps r e
    rw [List.mapM_cons] at e
    cases r with
    | cons r1 r2 =>
    cases e1 : toP k d with
    | none => rw [e1] at e; cases e
    | some p =>
      cases e2 : ds.mapM (toP k) with
      | none => rw [e1, e2] at e; cases e
      | some ps' =>
        rw [e1, e2] at e
        have e' : p :: ps' = ps := Option.some.inj e
        subst e'
        exact .cons (dp_ok hF k _ _ _ r1 e1) (ih2 _ _ r2 e2)
theorem dph_ok {K : PySem.W.Frag} {μ : List Addr} {F H : Hp} {h : Own} (R : RelH ca μ F h H) {d : D} {v : V} {p : PyData} (r : VR ca μ F v d) (e : toPh h d = some p) : Dp K H v p ∧ SeqAt.shaped p = true := by
  cases r with
  | ref q =>
    rename_i a n
    unfold toPh at e
    dsimp only at e
    split at e
    · rename_i ds q2
      obtain ⟨ps, e1, rfl⟩ := Option.map_eq_some_iff.mp e
      obtain ⟨vs, q3, r3⟩ := R.ob n _ _ q q2
      exact ⟨.lst (SqL.of q3) (dpAll_ok R.fz 7 ds vs ps r3 e1), shaped_of (k := 8) (d := .lst ds) (by rw [toP, e1]; rfl) (by decide)⟩
    · cases e
  | non => exact ⟨dp_ok (ca := ca) (μ := μ) R.fz 8 _ _ _ .non e, shaped_of (k := 8) e (by decide)⟩
  | bl b => exact ⟨dp_ok (ca := ca) (μ := μ) R.fz 8 _ _ _ (.bl b) e, shaped_of (k := 8) e (by decide)⟩
  | int b => exact ⟨dp_ok (ca := ca) (μ := μ) R.fz 8 _ _ _ (.int b) e, shaped_of (k := 8) e (by decide)⟩
  | str b => exact ⟨dp_ok (ca := ca) (μ := μ) R.fz 8 _ _ _ (.str b) e, shaped_of (k := 8) e (by decide)⟩
  | tup a b => exact ⟨dp_ok R.fz 8 _ _ _ (.tup a b) e, shaped_of (k := 8) e (by decide)⟩
  | lst a b => exact ⟨dp_ok R.fz 8 _ _ _ (.lst a b) e, shaped_of (k := 8) e (by decide)⟩
  | dK a b c => cases e
  | dT a b c => cases e
  | obj a b c => cases e
  | ro a => cases e
def fEqN (neg : Bool) : F2 := fun x y h => match toPh h x, toPh h y with
  | some p, some q => .ok (.v (.bl (if neg then !PyData.eqv p q else PyData.eqv p q))) h
  | _, _ => .stuck
def fEq : F2 := fEqN false
def fNe : F2 := fEqN true
theorem lk_eq {K : PySem.W.Frag} : Lk2 ca fEq (rEqD K) := by
  intro b μ F H h Wx x y c d Q R V1 V2 _ p
  unfold fEq fEqN at p
  cases e1 : toPh h c with
  | none => simp only [e1] at p; exact p.elim
  | some u =>
    cases e2 : toPh h d with
    | none => simp only [e1, e2] at p; exact p.elim
    | some w =>
      simp only [e1, e2] at p
      exact ⟨u, w, (dph_ok R V1 e1).1, (dph_ok R V2 e2).1, (dph_ok (K := K) R V1 e1).2, (dph_ok (K := K) R V2 e2).2, p.ok R _ (.bl _)⟩
theorem lk_ne {K : PySem.W.Frag} : Lk2 ca fNe (rNeD K) := by
  intro b μ F H h Wx x y c d Q R V1 V2 _ p
  unfold fNe fEqN at p
  cases e1 : toPh h c with
  | none => simp only [e1] at p; exact p.elim
  | some u =>
    cases e2 : toPh h d with
    | none => simp only [e1, e2] at p; exact p.elim
    | some w =>
      simp only [e1, e2] at p
      exact ⟨u, w, (dph_ok R V1 e1).1, (dph_ok R V2 e2).1, (dph_ok (K := K) R V1 e1).2, (dph_ok (K := K) R V2 e2).2, p.ok R _ (.bl _)⟩
end
end Z
set_option Elab.async false
set_option linter.all false
set_option maxRecDepth 100000
set_option maxHeartbeats 1000000
/-! Z4: in, is, subscripts, slices, tests, displays, attributes. -/
namespace Z
open PySem PySem.Spec L2
section
variable {ca : Cn} {X : Cx} {W : WF} {pos : Pos}
/-! ### keys of dicts -/
def asK : D → Option Key
  | .int i => some (.inl i)
  | .str s => some (.inr s)
  | _ => none
def asKs : D → Option (List Key)
  | .tup ds => ds.mapM asK
  | _ => none
def getD {κ : Type} [DecidableEq κ] (kds : List (κ × D)) (k : κ) : Option D := (kds.find? fun p => decide (p.1 = k)).map (·.2)
def putD {κ : Type} [DecidableEq κ] (kds : List (κ × D)) (k : κ) (d : D) : List (κ × D) :=
  if (kds.any fun p => decide (p.1 = k)) = true then kds.map (fun p => if p.1 = k then (p.1, d) else p) else kds ++ [(k, d)]
section
variable {κ : Type} [DecidableEq κ] {μ : List Addr} {F : Hp}
theorem vr_get : ∀ {kvs : List (κ × V)} {kds : List (κ × D)} (k : κ), kvs.map (·.1) = kds.map (·.1) → VRs ca μ F (kvs.map (·.2)) (kds.map (·.2)) →
    (getD kds k = none ∧ valV kvs k = none) ∨ ∃ v d, getD kds k = some d ∧ valV kvs k = some v ∧ VR ca μ F v d
  | [], [], k, _, _ => .inl ⟨rfl, rfl⟩
  | [], _ :: _, _, e, _ => by cases e
  | _ :: _, [], _, e, _ => by cases e
  | (a, v) :: kvs, (b, d) :: kds, k, e, r => by
    simp only [List.map_cons, List.cons.injEq] at e
    obtain ⟨e1, e2⟩ := e
    subst e1
    cases r with
    | cons r1 r2 =>
      by_cases hk : a = k
      · exact .inr ⟨v, d, by simp [getD, hk], by simp [valV, hk], r1⟩
      · rcases vr_get (kvs := kvs) (kds := kds) k e2 r2 with ⟨h1, h2⟩ | ⟨v', d', h1, h2, h3⟩
        · exact .inl ⟨by simpa [getD, List.find?_cons, hk] using h1, by simpa [valV, List.find?_cons, hk] using h2⟩
        · exact .inr ⟨v', d', by simpa [getD, List.find?_cons, hk] using h1, by simpa [valV, List.find?_cons, hk] using h2, h3⟩
theorem vr_any : ∀ {kvs : List (κ × V)} {kds : List (κ × D)} (k : κ), kvs.map (·.1) = kds.map (·.1) → (kvs.any fun p => decide (p.1 = k)) = kds.any fun p => decide (p.1 = k) := fun {kvs kds} k e => by
  have : ∀ {β : Type} (l : List (κ × β)), (l.any fun p => decide (p.1 = k)) = (l.map (·.1)).any fun p => decide (p = k) := fun l => by rw [List.any_map]; rfl
  rw [this, this, e]
theorem vr_repl : ∀ {kvs : List (κ × V)} {kds : List (κ × D)} (k : κ) {v : V} {d : D}, VR ca μ F v d → kvs.map (·.1) = kds.map (·.1) → VRs ca μ F (kvs.map (·.2)) (kds.map (·.2)) →
    VRs ca μ F ((kvs.map fun p => if p.1 = k then (p.1, v) else p).map (·.2)) ((kds.map fun p => if p.1 = k then (p.1, d) else p).map (·.2))
  | [], [], k, _, _, _, _, _ => .nil
  | [], _ :: _, _, _, _, _, e, _ => by cases e
  | _ :: _, [], _, _, _, _, e, _ => by cases e
  | (a, v0) :: kvs, (b, d0) :: kds, k, v, d, rv, e, r => by
    simp only [List.map_cons, List.cons.injEq] at e
    obtain ⟨e1, e2⟩ := e
    subst e1
    cases r with
    | cons r1 r2 =>
      have ih := vr_repl (kvs := kvs) (kds := kds) k rv e2 r2
      by_cases hk : a = k
      · simp only [List.map_cons, hk, if_pos]
        exact .cons rv ih
      · simp only [List.map_cons, if_neg hk]
        exact .cons r1 ih
theorem vr_put {kvs : List (κ × V)} {kds : List (κ × D)} (k : κ) {v : V} {d : D} (rv : VR ca μ F v d) (e : kvs.map (·.1) = kds.map (·.1)) (r : VRs ca μ F (kvs.map (·.2)) (kds.map (·.2))) :
    (putK kvs k v).map (·.1) = (putD kds k d).map (·.1) ∧ VRs ca μ F ((putK kvs k v).map (·.2)) ((putD kds k d).map (·.2)) := by
  unfold putK putD
  rw [vr_any k e]
  by_cases h : (kds.any fun p => decide (p.1 = k)) = true
  · rw [if_pos h, if_pos h]
    refine ⟨?_, vr_repl k rv e r⟩
    have : ∀ {β : Type} (l : List (κ × β)) (y : β), (l.map fun p => if p.1 = k then (p.1, y) else p).map (·.1) = l.map (·.1) := fun l y => by
      rw [List.map_map]
      exact List.map_congr_left fun p _ => by
        show (if p.1 = k then (p.1, y) else p).1 = p.1
        split <;> rfl
    rw [this, this, e]
  · rw [if_neg h, if_neg h]
    rw [List.map_append, List.map_append, List.map_append, List.map_append, e]
    exact ⟨rfl, r.append (.cons rv .nil)⟩
end
theorem asK_ok {μ : List Addr} {F : Hp} {v : V} {d : D} {k : Key} (r : VR ca μ F v d) (e : asK d = some k) : v = kV k := by
  cases r <;> simp [asK] at e <;> subst e <;> rfl
theorem asKs_go {μ : List Addr} {F : Hp} : ∀ {vs : List V} {ds : List D} {ks : List Key}, VRs ca μ F vs ds → ds.mapM asK = some ks → vs = ks.map kV
  | _, _, ks, .nil, e => by simp at e; subst e; rfl
  | _, d :: ds, ks, .cons r t, e => by
    rw [List.mapM_cons] at e
    cases e1 : asK d with
    | none => rw [e1] at e; cases e
    | some k =>
      cases e2 : ds.mapM asK with
      | none => rw [e1, e2] at e; cases e
      | some ks' =>
        rw [e1, e2] at e
        have e' : k :: ks' = ks := Option.some.inj e
        subst e'
        rw [asK_ok r e1, asKs_go t e2]
        rfl
theorem asKs_ok {μ : List Addr} {F H : Hp} (hF : Same F H) {v : V} {d : D} {ks : List Key} (r : VR ca μ F v d) (e : asKs d = some ks) : ∃ b, v = .ref b ∧ H b = some (.tup (ks.map kV)) := by
  cases r with
  | tup q r1 => exact ⟨_, rfl, by rw [hF _ _ q, asKs_go r1 e]⟩
  | _ => cases e
/-- a dict's content -/
inductive DC where
  | k (kds : List (Key × D)) | t (kds : List (List Key × D))
def asD (h : Own) : D → Option DC
  | .dK k => some (.k k)
  | .dT k => some (.t k)
  | .ref n => match h[n]? with
    | some (.dK k) => some (.k k)
    | some (.dT k) => some (.t k)
    | some (.lkK k) => some (.k k)
    | some (.lkT k) => some (.t k)
    | _ => none
  | _ => none
theorem asD_ok {μ : List Addr} {F H : Hp} {h : Own} {v : V} {d : D} {c : DC} (R : RelH ca μ F h H) (V1 : VR ca μ F v d) (e : asD h d = some c) : ∃ a, v = .ref a ∧ match c with
    | .k kds => ∃ kvs : List (Key × V), Rd H a (.dK kvs) ∧ kvs.map (·.1) = kds.map (·.1) ∧ VRs ca μ F (kvs.map (·.2)) (kds.map (·.2))
    | .t kds => ∃ kvs : List (List Key × V), Rd H a (.dT kvs) ∧ kvs.map (·.1) = kds.map (·.1) ∧ VRs ca μ F (kvs.map (·.2)) (kds.map (·.2)) := by
  cases V1 with
  | dK q k r => cases e; exact ⟨_, rfl, _, .inl (R.fz _ _ q), k, r⟩
  | dT q k r => cases e; exact ⟨_, rfl, _, .inl (R.fz _ _ q), k, r⟩
  | ref q =>
    rename_i a n
    unfold asD at e
    dsimp only at e
    split at e
    · rename_i ds' q2
      cases e
      obtain ⟨kvs, w1, w2⟩ := R.ob n _ _ q q2
      exact ⟨a, rfl, kvs, .inl w1, w2⟩
    · rename_i ds' q2
      cases e
      obtain ⟨kvs, w1, w2⟩ := R.ob n _ _ q q2
      exact ⟨a, rfl, kvs, .inl w1, w2⟩
    · rename_i ds' q2
      cases e
      obtain ⟨od, kvs, w1, w2⟩ := R.ob n _ _ q q2
      exact ⟨a, rfl, kvs, .inr ⟨od, w1⟩, w2⟩
    · rename_i ds' q2
      cases e
      obtain ⟨od, kvs, w1, w2⟩ := R.ob n _ _ q q2
      exact ⟨a, rfl, kvs, .inr ⟨od, w1⟩, w2⟩
    · cases e
  | _ => cases e
/-- a dict's answer at a key: none: no answer; some none: not there -/
def askD (h : Own) (d k : D) : Option (Option D) := match asD h d with
  | some (.k kds) => (asK k).map (getD kds)
  | some (.t kds) => (asKs k).map (getD kds)
  | none => none
def ROpt (ca : Cn) (μ : List Addr) (F : Hp) (ov : Option V) : Option D → Prop
  | none => ov = none
  | some d => ∃ w, ov = some w ∧ VR ca μ F w d
theorem askD_ok {μ : List Addr} {F H : Hp} {h : Own} {v y : V} {d k : D} {o : Option D} (R : RelH ca μ F h H) (V1 : VR ca μ F v d) (V2 : VR ca μ F y k) (e : askD h d k = some o) :
    ∃ a ov, v = .ref a ∧ DGet H a y ov ∧ ROpt ca μ F ov o := by
  unfold askD at e
  cases e1 : asD h d with
  | none => simp only [e1] at e; cases e
  | some c =>
    obtain ⟨a, rfl, hc⟩ := asD_ok R V1 e1
    cases c with
    | k kds =>
      simp only [e1] at e
      obtain ⟨kvs, q1, q2, q3⟩ := hc
      obtain ⟨kk, ek, rfl⟩ := Option.map_eq_some_iff.mp e
      have ey := asK_ok V2 ek
      subst ey
      refine ⟨a, valV kvs kk, rfl, .inl ⟨kvs, kk, q1, rfl, rfl⟩, ?_⟩
      rcases vr_get kk q2 q3 with ⟨h1, h2⟩ | ⟨v', d', h1, h2, h3⟩
      · rw [h1]; exact h2
      · rw [h1]; exact ⟨v', h2, h3⟩
    | t kds =>
      simp only [e1] at e
      obtain ⟨kvs, q1, q2, q3⟩ := hc
      obtain ⟨kk, ek, rfl⟩ := Option.map_eq_some_iff.mp e
      obtain ⟨b, rfl, hb⟩ := asKs_ok R.fz V2 ek
      refine ⟨a, valV kvs kk, rfl, .inr ⟨kvs, kk, b, q1, rfl, hb, rfl⟩, ?_⟩
      rcases vr_get kk q2 q3 with ⟨h1, h2⟩ | ⟨v', d', h1, h2, h3⟩
      · rw [h1]; exact h2
      · rw [h1]; exact ⟨v', h2, h3⟩
/-! ### in, not in -/
def flatD : D → Bool
  | .non => true
  | .bl _ => true
  | .int _ => true
  | .str _ => true
  | _ => false
def eqD : D → D → Bool
  | .non, .non => true
  | .bl a, .bl b => a == b
  | .bl a, .int b => (if a then 1 else 0) == b
  | .int a, .bl b => a == (if b then 1 else 0)
  | .int a, .int b => a == b
  | .str a, .str b => a == b
  | _, _ => false
theorem flat_ok {μ : List Addr} {F : Hp} {v : V} {d : D} (r : VR ca μ F v d) (e : flatD d = true) : flatV v = true := by
  cases r <;> first | rfl | (exact (Bool.false_ne_true e).elim)
theorem eqD_ok {μ : List Addr} {F : Hp} {v w : V} {d c : D} (r : VR ca μ F v d) (r2 : VR ca μ F w c) (e : flatD d = true) (e2 : flatD c = true) : eqV v w = eqD d c := by
  cases r <;> first | (exact (Bool.false_ne_true e).elim) | (cases r2 <;> first | rfl | (exact (Bool.false_ne_true e2).elim))
theorem flats_ok {μ : List Addr} {F : Hp} : ∀ {vs : List V} {ds : List D}, VRs ca μ F vs ds → ds.all flatD = true → vs.all flatV = true
  | _, _, .nil, _ => rfl
  | _, _, .cons r t, e => by
    rw [List.all_cons, Bool.and_eq_true] at e ⊢
    exact ⟨flat_ok r e.1, flats_ok t e.2⟩
theorem inD_ok {μ : List Addr} {F : Hp} {v : V} {d : D} (r : VR ca μ F v d) (e : flatD d = true) : ∀ {vs : List V} {ds : List D}, VRs ca μ F vs ds → ds.all flatD = true → inV v vs = ds.any fun y => eqD y d
  | _, _, .nil, _ => rfl
  | _, _, .cons r1 t, e1 => by
    rw [List.all_cons, Bool.and_eq_true] at e1
    unfold inV
    rw [List.any_cons, List.any_cons, eqD_ok r1 r e1.1 e, ← inD_ok r e t e1.2]
    rfl
/-- flat data in a list or tuple of such -/
def fInQ (neg : Bool) : F2 := fun x y h => match asQ h y with
  | some ds => if flatD x = true ∧ ds.all flatD = true then .ok (.v (.bl (if neg then !(ds.any fun z => eqD z x) else ds.any fun z => eqD z x))) h else .stuck
  | none => .stuck
theorem lk_inQ {K : PySem.W.Frag} (neg : Bool) : Lk2 ca (fInQ neg) (rIn K neg) := by
  intro b μ F H h Wx x y c d Q R V1 V2 _ p
  unfold fInQ at p
  cases e1 : asQ h d with
  | none => simp only [e1] at p; exact p.elim
  | some ds =>
    simp only [e1] at p
    obtain ⟨a, vs, rfl, q, r⟩ := asQ_ok R V2 e1
    by_cases hC : flatD c = true ∧ ds.all flatD = true
    · rw [if_pos hC] at p
      refine ⟨a, vs, rfl, SqQ q, flat_ok V1 hC.1, flats_ok r hC.2, ?_⟩
      rw [inD_ok V1 hC.1 r hC.2]
      exact p.ok R _ (.bl _)
    · rw [if_neg hC] at p
      exact p.elim
/-- any data in a list -/
def fInD (neg : Bool) : F2 := fun x y h => match toPh h x, toPh h y with
  | some p, some (.list ps) => .ok (.v (.bl (if neg then !(ps.any fun z => PyData.eqv z p) else ps.any fun z => PyData.eqv z p))) h
  | _, _ => .stuck
theorem lk_inD {K : PySem.W.Frag} : Lk2 ca (fInD false) (rInD K) := by
  intro b μ F H h Wx x y c d Q R V1 V2 _ p
  unfold fInD at p
  split at p
  · rename_i u ps e1 e2
    exact ⟨u, ps, (dph_ok R V1 e1).1, (dph_ok R V2 e2).1, (dph_ok (K := K) R V1 e1).2, (dph_ok (K := K) R V2 e2).2, p.ok R _ (.bl _)⟩
  · exact p.elim
theorem lk_notInD {K : PySem.W.Frag} : Lk2 ca (fInD true) (rNotInD K) := by
  intro b μ F H h Wx x y c d Q R V1 V2 _ p
  unfold fInD at p
  split at p
  · rename_i u ps e1 e2
    exact ⟨u, ps, (dph_ok R V1 e1).1, (dph_ok R V2 e2).1, (dph_ok (K := K) R V1 e1).2, (dph_ok (K := K) R V2 e2).2, p.ok R _ (.bl _)⟩
  · exact p.elim
/-- a key in a dict -/
def fInK (neg : Bool) : F2 := fun x y h => match askD h y x with
  | some o => .ok (.v (.bl (if neg then !o.isSome else o.isSome))) h
  | none => .stuck
def rInK (neg : Bool) : R2 := fun y x H Q => ∃ a o, x = .ref a ∧ DGet H a y o ∧ Q (.bl (if neg then !o.isSome else o.isSome)) H
theorem op_inK (hu : X.A.units + 1 < cLine) : OpR X (compareOp .In) (rInK false) := by
  intro pins s σ H x y v u Q I rx ry ⟨a, o, e, g, q⟩
  subst e
  cases ry
  exact d_in hu I g rx fun s' I' => ⟨.bl o.isSome, H, I', rfl, q⟩
theorem op_notInK (hu : X.A.units + 1 < cLine) : OpR X (compareOp .NotIn) (rInK true) := by
  intro pins s σ H x y v u Q I rx ry ⟨a, o, e, g, q⟩
  subst e
  cases ry
  exact d_notIn hu I g rx fun s' I' => ⟨.bl (!o.isSome), H, I', rfl, q⟩
theorem lk_inK (neg : Bool) : Lk2 ca (fInK neg) (rInK neg) := by
  intro b μ F H h Wx x y c d Q R V1 V2 _ p
  unfold fInK at p
  cases e1 : askD h d c with
  | none => simp only [e1] at p; exact p.elim
  | some o =>
    simp only [e1] at p
    obtain ⟨a, ov, rfl, g, ho⟩ := askD_ok R V2 V1 e1
    refine ⟨a, ov, rfl, g, ?_⟩
    have : ov.isSome = o.isSome := by
      cases o with
      | none => rw [show ov = none from ho]; rfl
      | some d => obtain ⟨w, e, _⟩ := ho; rw [e]; rfl
    rw [this]
    exact p.ok R _ (.bl _)
def fIn : F2 := orF (fInQ false) (orF (fInK false) (fInD false))
def fNotIn : F2 := orF (fInQ true) (orF (fInK true) (fInD true))
theorem op_in (hu : X.A.units + 65 < cLine) : OpR X (compareOp .In) (fun x y H Q => rIn X.K false x y H Q ∨ rInK false x y H Q ∨ rInD X.K x y H Q) := op_in_seq.or ((op_inK (by omega)).or (op_inD hu))
theorem op_notIn (hu : X.A.units + 65 < cLine) : OpR X (compareOp .NotIn) (fun x y H Q => rIn X.K true x y H Q ∨ rInK true x y H Q ∨ rNotInD X.K x y H Q) := op_notIn_seq.or ((op_notInK (by omega)).or (op_notInD hu))
theorem lk_in {K : PySem.W.Frag} : Lk2 ca fIn (fun x y H Q => rIn K false x y H Q ∨ rInK false x y H Q ∨ rInD K x y H Q) := (lk_inQ false).or ((lk_inK false).or lk_inD)
theorem lk_notIn {K : PySem.W.Frag} : Lk2 ca fNotIn (fun x y H Q => rIn K true x y H Q ∨ rInK true x y H Q ∨ rNotInD K x y H Q) := (lk_inQ true).or ((lk_inK true).or lk_notInD)
end
end Z
set_option Elab.async false
set_option linter.all false
set_option maxRecDepth 100000
set_option maxHeartbeats 1000000
/-! Z5: is, subscripts, slices, tests, displays, attributes. -/
namespace Z
open PySem PySem.Spec L2
section
variable {ca : Cn} {X : Cx} {W : WF} {pos : Pos} {e a b c : Expr}
/-! ### one value -/
abbrev F1 := D → Own → Res R
def Lk1 (ca : Cn) (f : F1) (r : V → Hp → VK → Prop) : Prop := ∀ (b : Nat) (μ : List Addr) (F H : Hp) (h : Own) (Wx : Nat → Hp → Prop) (x : V) (c : D) (Q : VK), RelH ca μ F h H → VR ca μ F x c → b ≤ h.length →
  PostG ca b μ F H h (f c h) Wx (fun r μ1 F1 H1 _ => ∀ v, RR ca μ1 F1 H H1 v r → Q v H1) → r x H Q
def e1 (f : F1) (a : ED) : EX := fun τ h => (a τ h).bind fun x h1 => f x h1
theorem lk_un {f : F1} {r : V → Hp → VK → Prop} {ta : ED} (lk : Lk1 ca f r) : ∀ σ H Q, rdE ca W (e1 f ta) σ H Q → rdD ca W ta σ H fun x H1 => r x H1 Q := fun σ H Q ⟨μ, F, τ, h, A, p⟩ =>
  ⟨μ, F, τ, h, A, p.bind.imp fun c μ1 F1 H1 h1 E1 R1 q v V => lk τ.b μ1 F1 H1 h1 _ v c Q R1 V (Nat.le_trans A.bl (E1.len A.rel R1)) (q.imp fun r μ3 F3 H3 h3 E3 R3 q3 u V3 => q3 u (RR.back E1 V3))⟩
theorem se_un {op : UnaryOp} {f : F1} {r : V → Hp → VK → Prop} {ta : ED} (ho : UnR X (unaryOp op) r) (lk : Lk1 ca f r) (ha : SD ca X W a ta) : SE ca X W (.UnaryOp op a pos) (e1 f ta) := PE.imp (pe_un ho ha) (lk_un lk)
def fNeg : F1
  | .int i, h => .ok (.v (.int (-i))) h
  | _, _ => .stuck
def fInv : F1
  | .int i, h => .ok (.v (.int (Builtin.bitNot i))) h
  | _, _ => .stuck
theorem lk_neg : Lk1 ca fNeg (rU fun i => .int (-i)) := by
  intro b μ F H h Wx x c Q R V1 _ p
  cases V1 with
  | int i => exact ⟨i, rfl, p.ok R _ (.int _)⟩
  | _ => exact (show False from p).elim
theorem lk_inv : Lk1 ca fInv (rU fun i => .int (Builtin.bitNot i)) := by
  intro b μ F H h Wx x c Q R V1 _ p
  cases V1 with
  | int i => exact ⟨i, rfl, p.ok R _ (.int _)⟩
  | _ => exact (show False from p).elim
/-- not x, of a bool, as a value -/
def fNotB : F1
  | .bl i, h => .ok (.v (.bl (!i))) h
  | _, _ => .stuck
theorem se_not {ta : ED} (ha : SD ca X W a ta) : SE ca X W (.UnaryOp .Not a pos) (e1 fNotB ta) := PE.imp (pe_not ha) (lk_un (r := fun x H1 Q => ∃ c, x = .bl c ∧ Q (.bl (!c)) H1) (by
  intro b μ F H h Wx x c Q R V1 _ p
  cases V1 with
  | bl i => exact ⟨i, rfl, p.ok R _ (.bl _)⟩
  | _ => exact (show False from p).elim))
/-- is None, is not None -/
def isN : D → Bool
  | .non => true
  | _ => false
def fIsN (neg : Bool) : F1 := fun x h => .ok (.v (.bl (if neg then !isN x else isN x))) h
theorem isN_ok {μ : List Addr} {F : Hp} {v : V} {d : D} (r : VR ca μ F v d) : decide (v = .non) = isN d := by
  cases r <;> first | rfl | exact decide_eq_false (fun z => nomatch z)
theorem se_isN {j pos'} {ta : ED} (ha : SD ca X W a ta) : SE ca X W (.Compare a [.Is] [.Constant .none j pos'] pos) (e1 (fIsN false) ta) := PE.imp (pe_cmp (pc_isN ha)) (lk_un (r := fun x H1 Q => Q (.bl (decide (x = .non))) H1) (by
  intro b μ F H h Wx x c Q R V1 _ p
  show Q _ _
  rw [isN_ok V1]
  exact p.ok R _ (.bl _)))
theorem se_notN {j pos'} {ta : ED} (ha : SD ca X W a ta) : SE ca X W (.Compare a [.IsNot] [.Constant .none j pos'] pos) (e1 (fIsN true) ta) := PE.imp (pe_cmp (pc_notN ha)) (lk_un (r := fun x H1 Q => Q (.bl (!decide (x = .non))) H1) (by
  intro b μ F H h Wx x c Q R V1 _ p
  show Q _ _
  rw [isN_ok V1]
  exact p.ok R _ (.bl _)))
/-! ### subscripts -/
def fIxQ : F2 := fun x y h => match asQ h x, y with
  | some ds, .int i => match atI ds i with
    | some d => .ok (.v d) h
    | none => .stuck
  | _, _ => .stuck
theorem VRs.atI {μ : List Addr} {F : Hp} {vs : List V} {ds : List D} {i : Int} {d : D} (r : VRs ca μ F vs ds) (e : L2.atI ds i = some d) : ∃ v, L2.atI vs i = some v ∧ VR ca μ F v d := by
  unfold L2.atI at e ⊢
  rw [r.length]
  obtain ⟨j, ej, ed⟩ := Option.bind_eq_some_iff.mp e
  rw [ej]
  exact r.get ed
theorem lk_ixQ {K : PySem.W.Frag} : Lk2 ca fIxQ (fun x y H Q => rIxL K x y H Q ∨ rIxT K x y H Q) := by
  intro b μ F H h Wx x y c d Q R V1 V2 _ p
  unfold fIxQ at p
  cases e1 : asQ h c with
  | none => simp only [e1] at p; exact p.elim
  | some ds =>
    obtain ⟨a, vs, rfl, q, r⟩ := asQ_ok R V1 e1
    cases V2 with
    | int i =>
      simp only [e1] at p
      cases e2 : L2.atI ds i with
      | none => simp only [e2] at p; exact p.elim
      | some z =>
        simp only [e2] at p
        obtain ⟨v, hv, rv⟩ := r.atI e2
        rcases q with q | q
        · exact .inl ⟨a, vs, i, v, rfl, rfl, SqL.of q, hv, p.ok R _ rv⟩
        · exact .inr ⟨a, vs, i, v, rfl, rfl, SqT.of q, hv, p.ok R _ rv⟩
    | _ => simp only [e1] at p; exact p.elim
def fIxS : F2
  | .str z, .int i, h => if z.length ≤ sizeLine then match atI z.cps.toList i with
    | some c => .ok (.v (.str ⟨#[c]⟩)) h
    | none => .stuck else .stuck
  | _, _, _ => .stuck
theorem lk_ixS : Lk2 ca fIxS rIxS := by
  intro b μ F H h Wx x y c d Q R V1 V2 _ p
  cases V1 with
  | str z =>
    cases V2 with
    | int i =>
      have p' : PostG ca b μ F H h (if z.length ≤ sizeLine then match atI z.cps.toList i with | some c => .ok (.v (.str ⟨#[c]⟩)) h | none => .stuck else .stuck) Wx (fun r μ1 F1 H1 _ => ∀ v, RR ca μ1 F1 H H1 v r → Q v H1) := p
      by_cases hC : z.length ≤ sizeLine
      · rw [if_pos hC] at p'
        cases e2 : atI z.cps.toList i with
        | none => rw [e2] at p'; exact p'.elim
        | some c =>
          rw [e2] at p'
          exact ⟨z, i, c, rfl, rfl, hC, e2, p'.ok R _ (.str _)⟩
      · rw [if_neg hC] at p'
        exact p'.elim
    | _ => exact (show False from p).elim
  | _ => exact (show False from p).elim
def fIxD : F2 := fun x y h => match askD h x y with
  | some (some d) => .ok (.v d) h
  | _ => .stuck
def rIxD : R2 := fun x y H Q => ∃ a v, x = .ref a ∧ DGet H a y (some v) ∧ Q v H
open PyProof.Rows in
theorem ix_dict (hu : X.A.units + 1 < cLine) : IxR X rIxD := by
  intro value slice pins s σ H x y v u Q I rx ry ⟨a, z, e, g, q⟩ hs
  subst e
  obtain rfl : v = Value.ref a := rx
  have hT := dict_typeIs I g
  unfold subscriptTail
  refine wpAny_bind ?_
  rw [getitemInPython_of_ne hT.not_modules]
  refine wpAny_bind (wpAny_specialOf hT PySem.F.slot_dict_getitem.lookup ?_)
  have h₂ : wpAny (model X.prog X.w) X.A (getItem (.ref a) u) (EP X pins σ Q) X.xe s := d_getItem hu I g ry fun w' s' I' rw' => ⟨z, H, I', rw', q⟩
  have fin : wpAny (model X.prog X.w) X.A (subscripted slice false (.ref a) u) (fun r s₃ => wpAny (model X.prog X.w) X.A (letTemporaryGo value (.ref a) r >>= fun _ => pure r) (EP X pins σ Q) X.xe s₃) X.xe s := by
    rw [hs]
    exact wpAny_operating (wpAny_mono h₂ (fun r s₃ h₃ => wpAny_bind (wpAny_letTemporaryGo (wpAny_pure h₃))) fun _ _ x => x)
  first
    | exact wpAny_pure (wpAny_bind fin)
    | exact wpAny_bind (wpAny_pure (wpAny_bind fin))
    | exact wpAny_bind fin
theorem lk_ixD : Lk2 ca fIxD rIxD := by
  intro b μ F H h Wx x y c d Q R V1 V2 _ p
  unfold fIxD at p
  split at p
  · rename_i z e1
    obtain ⟨a, ov, rfl, g, w, e, r⟩ := askD_ok R V1 V2 e1
    subst e
    exact ⟨a, w, rfl, g, p.ok R _ r⟩
  · exact p.elim
def fIx : F2 := orF fIxQ (orF fIxS fIxD)
theorem ix_any (hu : X.A.units + 1 < cLine) : IxR X (fun x y H Q => (rIxL X.K x y H Q ∨ rIxT X.K x y H Q) ∨ rIxS x y H Q ∨ rIxD x y H Q) := (ix_list.or ix_tup).or (ix_str.or (ix_dict hu))
theorem lk_ix {K : PySem.W.Frag} : Lk2 ca fIx (fun x y H Q => (rIxL K x y H Q ∨ rIxT K x y H Q) ∨ rIxS x y H Q ∨ rIxD x y H Q) := lk_ixQ.or (lk_ixS.or lk_ixD)
theorem se_ix {ta tb : ED} (hu : X.A.units + 1 < cLine) (ha : SD ca X W a ta) (hb : SD ca X W b tb) (hs : PlainIx b) : SE ca X W (.Subscript a b pos) (e2 fIx ta tb) := PE.imp (pe_ix (ix_any hu) ha hb hs) (lk_op lk_ix)
end
end Z
set_option Elab.async false
set_option linter.all false
set_option maxRecDepth 100000
set_option maxHeartbeats 1000000
/-! Z6: slices, tests, displays, attributes. -/
namespace Z
open PySem PySem.Spec L2
section
variable {ca : Cn} {X : Cx} {W : WF} {pos : Pos} {e a b c : Expr}
/-! ### slices -/
abbrev EO := Fm → Own → Res (Option Int)
def oNone : EO := fun _ h => .ok none h
def oSome (x : ED) : EO := fun τ h => (x τ h).bind fun d h1 => match d with
  | .int i => .ok (some i) h1
  | _ => .stuck
def rdO (ca : Cn) (W : WF) (x : EO) : TO := fun σ H Q => ∃ μ F τ h, At ca μ F τ h σ H ∧ PostG ca τ.b μ F H h (x τ h) (wx ca W σ) fun o _ _ H1 _ => Q o H1
def SO (ca : Cn) (X : Cx) (W : WF) (e : Option Expr) (x : EO) : Prop := PO X e (rdO ca W x)
theorem so_none : SO ca X W none oNone := ⟨fun pins s σ H Q I ⟨μ, F, τ, h, A, p⟩ => po_none.run pins s σ H Q I (p.ok A.rel)⟩
theorem so_some {x : ED} (hx : SD ca X W e x) : SO ca X W (some e) (oSome x) := ⟨fun pins s σ H Q I ⟨μ, F, τ, h, A, p⟩ => (po_some hx).run pins s σ H Q I ⟨μ, F, τ, h, A, p.bind.imp fun d μ1 F1 H1 h1 E1 R1 q v V => by
  cases V with
  | int i => exact ⟨i, rfl, q.ok R1⟩
  | _ => exact (show False from q).elim⟩⟩
def cutD (xs : List D) (lo hi : Option Int) : List D := (xs.drop (HT.sIx xs.length 0 lo)).take (HT.sIx xs.length xs.length hi - HT.sIx xs.length 0 lo)
theorem VRs.cut {μ : List Addr} {F : Hp} {vs : List V} {ds : List D} (r : VRs ca μ F vs ds) (lo hi : Option Int) : VRs ca μ F (cutV vs lo hi) (cutD ds lo hi) := by
  unfold cutV cutD
  rw [r.length]
  exact (r.drop _).take _
def fSl (x : D) (lo hi : Option Int) (h : Own) : Res R := match x with
  | .tup ds => .ok (.v (.tup (cutD ds lo hi))) h
  | x => match asL h x with
    | some ds => .ok (.n (.lst (cutD ds lo hi))) h
    | none => .stuck
def eSl (x : ED) (lo hi : EO) : EX := fun τ h => (x τ h).bind fun d h1 => (lo τ h1).bind fun l h2 => (hi τ h2).bind fun u h3 => fSl d l u h3
theorem sIx_of (n d : Nat) (o : Option Int) : True := trivial
theorem se_sl {x : ED} {lo hi : EO} {el eh : Option Expr} {p2 : Pos} (hx : SD ca X W e x) (hl : SO ca X W el lo) (hh : SO ca X W eh hi) : SE ca X W (.Subscript e (.Slice el eh none p2) pos) (eSl x lo hi) := by
  refine PE.imp (pe_slice (sl_tupA.or sl_list) hx hl hh) fun σ H Q ⟨μ, F, τ, h, A, p⟩ => ⟨μ, F, τ, h, A, p.bind.imp fun d μ1 F1 H1 h1 E1 R1 q v V => ⟨μ1, F1, τ, h1, A.ext E1 R1, q.bind.imp fun l μ2 F2 H2 h2 E2 R2 q2 => ⟨μ2, F2, τ, h2, (A.ext E1 R1).ext E2 R2, q2.bind.imp fun u μ3 F3 H3 h3 E3 R3 q3 => ?_⟩⟩⟩
  have q4 : PostG ca τ.b μ3 F3 H3 h3 (fSl d l u h3) (wx ca W σ) fun r μ4 F4 H4 _ => ∀ v, RR ca μ4 F4 H3 H4 v r → Q v H4 := q3.imp fun r μ4 F4 H4 h4 E4 R4 q5 w V5 => q5 w (RR.back E1 (RR.back E2 (RR.back E3 V5)))
  have V3 := E3.vr (E2.vr V)
  unfold fSl at q4
  cases V3 with
  | @tup a vs ds qt r =>
    dsimp only at q4
    refine .inl ⟨a, vs, rfl, SqT.of (R3.fz _ _ qt), fun hw => ?_, fun _ l hl => new_tup R3 (r.cut _ _) q4 hl⟩
    have ew : cutD ds l u = ds := by
      unfold cutD
      rw [← r.length, hw.1, hw.2, r.length]
      simp
    rw [ew] at q4
    exact q4.ok R3 _ (show VR ca _ _ _ _ from .tup qt r)
  | _ =>
    dsimp only at q4
    split at q4
    · rename_i ds e1
      obtain ⟨a, vs, ev, qq, r⟩ := asL_ok R3 (E3.vr (E2.vr V)) e1
      exact .inr ⟨a, vs, ev, SqL.of qq, fun l hl => new_lst R3 (r.cut _ _) q4 hl⟩
    · exact q4.elim
/-! ### tests -/
/-- an outcome that is True or False -/
def eTB (x : EX) : EB := fun τ h => (x τ h).bind fun r h1 => match r with
  | .v (.bl k) => .ok k h1
  | _ => .stuck
theorem tb_rd {x : EX} {σ : L2.St} {H : Hp} {Q : Bool → Hp → Prop} : rdB ca W (eTB x) σ H Q → rdE ca W x σ H fun x H' => ∃ k, x = .bl k ∧ Q k H' := fun ⟨μ, F, τ, h, A, p⟩ => ⟨μ, F, τ, h, A, p.bind.imp fun r μ1 F1 H1 h1 E1 R1 q v V => by
  cases r with
  | n o => exact (show False from q).elim
  | v d =>
    have V' : VR ca μ1 F1 v d := V
    cases V' with
    | bl k => exact ⟨k, rfl, q.ok R1⟩
    | _ => exact (show False from q).elim⟩
theorem sb_cmp {op : CmpOp} {f : F2} {r : R2} {ta tb : ED} (ho : OpR X (compareOp op) r) (lk : Lk2 ca f r) (ha : SD ca X W a ta) (hb : SD ca X W b tb) (hm : behindInMarks op b = false) : SB ca X W (.Compare a [op] [b] pos) (eTB (e2 f ta tb)) :=
  PT.imp (pt_cmpR ho ha hb hm) fun σ H Q q => lk_op lk σ H _ (tb_rd q)
theorem sb_isN {j pos'} {ta : ED} (ha : SD ca X W a ta) : SB ca X W (.Compare a [.Is] [.Constant .none j pos'] pos) (eTB (e1 (fIsN false) ta)) := PT.imp (pt_cmp (pc_isN ha)) fun σ H Q q => lk_un (r := fun x H1 Q => Q (.bl (decide (x = .non))) H1) (by
  intro b μ F H h Wx x c Q R V1 _ p
  show Q _ _
  rw [isN_ok V1]
  exact p.ok R _ (.bl _)) σ H _ (tb_rd q)
theorem sb_notN {j pos'} {ta : ED} (ha : SD ca X W a ta) : SB ca X W (.Compare a [.IsNot] [.Constant .none j pos'] pos) (eTB (e1 (fIsN true) ta)) := PT.imp (pt_cmp (pc_notN ha)) fun σ H Q q => lk_un (r := fun x H1 Q => Q (.bl (!decide (x = .non))) H1) (by
  intro b μ F H h Wx x c Q R V1 _ p
  show Q _ _
  rw [isN_ok V1]
  exact p.ok R _ (.bl _)) σ H _ (tb_rd q)
/-- a op b op' c -/
def eCh (f g : F2) (a b c : ED) : EX := fun τ h => (a τ h).bind fun x h1 => (b τ h1).bind fun y h2 => (f x y h2).bind fun r h3 => match r with
  | .v (.bl true) => (c τ h3).bind fun z h4 => g y z h4
  | .v (.bl false) => .ok (.v (.bl false)) h3
  | _ => .stuck
theorem ch_rd {f g : F2} {r r' : R2} {ta tb tc : ED} (lk : Lk2 ca f r) (lk' : Lk2 ca g r') {σ : L2.St} {H : Hp} {Q : VK} : rdE ca W (eCh f g ta tb tc) σ H Q → tChain r r' (rdD ca W ta) (rdD ca W tb) (rdD ca W tc) σ H Q := fun ⟨μ, F, τ, h, A, p⟩ =>
  ⟨μ, F, τ, h, A, p.bind.imp fun d μ1 F1 H1 h1 E1 R1 q v V => ⟨μ1, F1, τ, h1, A.ext E1 R1, q.bind.imp fun d2 μ2 F2 H2 h2 E2 R2 q2 v2 V2 => by
    have A2 := (A.ext E1 R1).ext E2 R2
    refine lk τ.b μ2 F2 H2 h2 (wx ca W σ) v v2 d d2 _ R2 (E2.vr V) V2 A2.bl (q2.bind.imp fun r3 μ3 F3 H3 h3 E3 R3 q3 v3 V3 => ?_)
    cases r3 with
    | n o => exact (show False from q3).elim
    | v d3 =>
      have V' : VR ca μ3 F3 v3 d3 := V3
      cases V' with
      | bl k =>
        refine ⟨k, rfl, ?_⟩
        cases k with
        | false => exact q3.ok R3 (.bl false) (show VR ca _ _ _ _ from .bl false)
        | true =>
          have A3 := A2.ext E3 R3
          refine ⟨μ3, F3, τ, h3, A3, q3.bind.imp fun d4 μ4 F4 H4 h4 E4 R4 q4 v4 V4 => ?_⟩
          exact lk' τ.b μ4 F4 H4 h4 (wx ca W σ) v2 v4 d2 d4 Q R4 (E4.vr (E3.vr V2)) V4 (A3.ext E4 R4).bl (q4.imp fun r5 μ5 F5 H5 h5 E5 R5 q5 u V5 => q5 u (RR.back E1 (RR.back E2 (RR.back E3 (RR.back E4 V5)))))
      | _ => exact (show False from q3).elim⟩⟩
theorem se_ch {op op' : CmpOp} {f g : F2} {r r' : R2} {ta tb tc : ED} (ho : OpR X (compareOp op) r) (ho' : OpR X (compareOp op') r') (lk : Lk2 ca f r) (lk' : Lk2 ca g r') (ha : SD ca X W a ta) (hb : SD ca X W b tb) (hc : SD ca X W c tc)
    (hm : lastMarks [op, op'] [b, c] = false) : SE ca X W (.Compare a [op, op'] [b, c] pos) (eCh f g ta tb tc) := PE.imp (pe_chain ho ho' ha hb hc hm) fun σ H Q q => ch_rd lk lk' q
theorem sb_ch {op op' : CmpOp} {f g : F2} {r r' : R2} {ta tb tc : ED} (ho : OpR X (compareOp op) r) (ho' : OpR X (compareOp op') r') (lk : Lk2 ca f r) (lk' : Lk2 ca g r') (ha : SD ca X W a ta) (hb : SD ca X W b tb) (hc : SD ca X W c tc)
    (hm : lastMarks [op, op'] [b, c] = false) : SB ca X W (.Compare a [op, op'] [b, c] pos) (eTB (eCh f g ta tb tc)) := PT.imp (pt_chain ho ho' ha hb hc hm) fun σ H Q q => ch_rd lk lk' (tb_rd q)
/-- a value's truth -/
def tru (h : Own) : D → Option Bool
  | .non => some false
  | .bl b => some b
  | .int i => some (i != 0)
  | .str s => if s.length ≤ sizeLine then some ((s.length : Int) != 0) else none
  | .tup ds => some (!ds.isEmpty)
  | .lst ds => some (!ds.isEmpty)
  | .dK kds => some (!kds.isEmpty)
  | .ref n => match h[n]? with
    | some (.lst ds) => some (!ds.isEmpty)
    | some (.dK kds) => some (!kds.isEmpty)
    | _ => none
  | _ => none
def eT (x : ED) : EB := fun τ h => (x τ h).bind fun d h1 => match tru h1 d with
  | some k => .ok k h1
  | none => .stuck
theorem emp_eq {α β : Type} : ∀ {xs : List α} {ys : List β}, xs.length = ys.length → xs.isEmpty = ys.isEmpty
  | [], [], _ => rfl
  | [], _ :: _, e => by cases e
  | _ :: _, [], e => by cases e
  | _ :: _, _ :: _, _ => rfl
theorem tru_of {K : PySem.W.Frag} {μ : List Addr} {F H : Hp} {h : Own} {v : V} {d : D} {k : Bool} (R : RelH ca μ F h H) (V1 : VR ca μ F v d) (e : tru h d = some k) : TruV K v H k := by
  cases V1 with
  | non => cases e; rfl
  | bl b => cases e; rfl
  | int b => cases e; rfl
  | str s =>
    unfold tru at e
    dsimp only at e
    by_cases q : s.length ≤ sizeLine
    · rw [if_pos q] at e; cases e; exact ⟨q, rfl⟩
    · rw [if_neg q] at e; cases e
  | tup q r => cases e; exact .inr (.inl ⟨_, SqT.of (R.fz _ _ q), by rw [emp_eq r.length]⟩)
  | lst q r => cases e; exact .inl ⟨_, SqL.of (R.fz _ _ q), by rw [emp_eq r.length]⟩
  | dK q k r =>
    cases e
    have hl := r.length
    rw [List.length_map, List.length_map] at hl
    exact .inr (.inr ⟨_, R.fz _ _ q, by rw [emp_eq hl]⟩)
  | dT q k r => cases e
  | obj q k r => cases e
  | ro a => cases e
  | ref q =>
    rename_i a n
    unfold tru at e
    dsimp only at e
    split at e
    · rename_i ds q2
      cases e
      obtain ⟨vs, q3, r3⟩ := R.ob n _ _ q q2
      exact .inl ⟨_, SqL.of q3, by rw [emp_eq r3.length]⟩
    · rename_i ds q2
      cases e
      obtain ⟨vs, q3, k3, r3⟩ := R.ob n _ _ q q2
      have hl := r3.length
      rw [List.length_map, List.length_map] at hl
      exact .inr (.inr ⟨_, q3, by rw [emp_eq hl]⟩)
    · cases e
theorem sb_t {x : ED} (hx : SD ca X W e x) (he : ∀ whole, isTrue e X.env whole = (do let v ← whole; standAt e.pos; holding [v] (truthy v))) : SB ca X W e (eT x) := PT.imp (pt_truth hx he) fun σ H Q ⟨μ, F, τ, h, A, p⟩ => ⟨μ, F, τ, h, A, p.bind.imp fun d μ1 F1 H1 h1 E1 R1 q v V => by
  cases e1 : tru h1 d with
  | none => simp only [e1] at q; exact q.elim
  | some k =>
    simp only [e1] at q
    exact ⟨k, tru_of R1 V e1, q.ok R1⟩⟩
/-! ### and, or, not -/
def bAnd (a b : EB) : EB := fun τ h => (a τ h).bind fun k h1 => if k = true then b τ h1 else .ok false h1
def bOr (a b : EB) : EB := fun τ h => (a τ h).bind fun k h1 => if k = true then .ok true h1 else b τ h1
def bNot (a : EB) : EB := fun τ h => (a τ h).bind fun k h1 => .ok (!k) h1
variable {rest : List Expr} {ta tb : EB}
theorem sw_and1 (ha : SB ca X W a ta) : SW ca X W (.BoolOp .And [a] pos) ta := pw_and1 ha
theorem sw_or1 (ha : SB ca X W a ta) : SW ca X W (.BoolOp .Or [a] pos) ta := pw_or1 ha
theorem and_rd {σ : L2.St} {H : Hp} {Q : Bool → Hp → Prop} : rdB ca W (bAnd ta tb) σ H Q → tAnd (rdB ca W ta) (rdB ca W tb) σ H Q := fun ⟨μ, F, τ, h, A, p⟩ => ⟨μ, F, τ, h, A, p.bind.imp fun k μ1 F1 H1 h1 E1 R1 q => by
  cases k with
  | true => rw [if_pos rfl] at q ⊢; exact ⟨μ1, F1, τ, h1, A.ext E1 R1, q⟩
  | false => rw [if_neg Bool.false_ne_true] at q ⊢; exact q.ok R1⟩
theorem or_rd {σ : L2.St} {H : Hp} {Q : Bool → Hp → Prop} : rdB ca W (bOr ta tb) σ H Q → tOr (rdB ca W ta) (rdB ca W tb) σ H Q := fun ⟨μ, F, τ, h, A, p⟩ => ⟨μ, F, τ, h, A, p.bind.imp fun k μ1 F1 H1 h1 E1 R1 q => by
  cases k with
  | true => rw [if_pos rfl] at q ⊢; exact q.ok R1
  | false => rw [if_neg Bool.false_ne_true] at q ⊢; exact ⟨μ1, F1, τ, h1, A.ext E1 R1, q⟩⟩
theorem sw_and (ha : SB ca X W a ta) (hb : SW ca X W (.BoolOp .And (b :: rest) pos) tb) : SW ca X W (.BoolOp .And (a :: b :: rest) pos) (bAnd ta tb) := PW.imp (pw_and ha hb) fun σ H Q q => and_rd q
theorem sw_or (ha : SB ca X W a ta) (hb : SW ca X W (.BoolOp .Or (b :: rest) pos) tb) : SW ca X W (.BoolOp .Or (a :: b :: rest) pos) (bOr ta tb) := PW.imp (pw_or ha hb) fun σ H Q q => or_rd q
theorem sb_w (h : SW ca X W e ta) : SB ca X W e ta := h.pt
theorem sb_not (ha : SB ca X W a ta) : SB ca X W (.UnaryOp .Not a pos) (bNot ta) := PT.imp (pt_not ha) fun σ H Q ⟨μ, F, τ, h, A, p⟩ => ⟨μ, F, τ, h, A, p.bind.imp fun k μ1 F1 H1 h1 E1 R1 q => q.ok R1⟩
/-- .. as values, of bools -/
def vAnd (a b : ED) : ED := fun τ h => (a τ h).bind fun x h1 => match x with
  | .bl true => b τ h1
  | .bl false => .ok (.bl false) h1
  | _ => .stuck
def vOr (a b : ED) : ED := fun τ h => (a τ h).bind fun x h1 => match x with
  | .bl false => b τ h1
  | .bl true => .ok (.bl true) h1
  | _ => .stuck
variable {va vb : ED}
theorem sd_one {op} (ha : SD ca X W a va) : SD ca X W (.BoolOp op [a] pos) va := pe_one ha
theorem sd_and (ha : SD ca X W a va) (hb : SD ca X W (.BoolOp .And (b :: rest) pos) vb) : SD ca X W (.BoolOp .And (a :: b :: rest) pos) (vAnd va vb) := PE.imp (pe_and ha hb) fun σ H Q ⟨μ, F, τ, h, A, p⟩ => ⟨μ, F, τ, h, A, p.bind.imp fun d μ1 F1 H1 h1 E1 R1 q v V => by
  cases V with
  | bl k =>
    refine ⟨k, rfl, ?_⟩
    cases k with
    | true => rw [if_pos rfl]; exact ⟨μ1, F1, τ, h1, A.ext E1 R1, q⟩
    | false => rw [if_neg Bool.false_ne_true]; exact q.ok R1 _ (.bl false)
  | _ => exact (show False from q).elim⟩
theorem sd_or (ha : SD ca X W a va) (hb : SD ca X W (.BoolOp .Or (b :: rest) pos) vb) : SD ca X W (.BoolOp .Or (a :: b :: rest) pos) (vOr va vb) := PE.imp (pe_or ha hb) fun σ H Q ⟨μ, F, τ, h, A, p⟩ => ⟨μ, F, τ, h, A, p.bind.imp fun d μ1 F1 H1 h1 E1 R1 q v V => by
  cases V with
  | bl k =>
    refine ⟨k, rfl, ?_⟩
    cases k with
    | true => rw [if_pos rfl]; exact q.ok R1 _ (.bl true)
    | false => rw [if_neg Bool.false_ne_true]; exact ⟨μ1, F1, τ, h1, A.ext E1 R1, q⟩
  | _ => exact (show False from q).elim⟩
/-- a if t else b -/
def eIf (t : EB) (a b : EX) : EX := fun τ h => (t τ h).bind fun k h1 => if k = true then a τ h1 else b τ h1
theorem se_if {xa xb : EX} (hc : SB ca X W c ta) (ha : SE ca X W a xa) (hb : SE ca X W b xb) : SE ca X W (.IfExp c a b pos) (eIf ta xa xb) := PE.imp (pe_ifExp hc ha hb) fun σ H Q ⟨μ, F, τ, h, A, p⟩ => ⟨μ, F, τ, h, A, p.bind.imp fun k μ1 F1 H1 h1 E1 R1 q => by
  have q' := q.imp (K' := fun r μ2 F2 H2 _ => ∀ v, RR ca μ2 F2 H1 H2 v r → Q v H2) fun r μ2 F2 H2 h2 E2 R2 q2 w V2 => q2 w (RR.back E1 V2)
  cases k with
  | true => show rdE ca W xa σ H1 Q; rw [if_pos rfl] at q'; exact ⟨μ1, F1, τ, h1, A.ext E1 R1, q'⟩
  | false => show rdE ca W xb σ H1 Q; rw [if_neg Bool.false_ne_true] at q'; exact ⟨μ1, F1, τ, h1, A.ext E1 R1, q'⟩⟩
/-! ### arguments, displays -/
def aNil : EA := fun _ h => .ok [] h
def aCons (x : ED) (xs : EA) : EA := fun τ h => (x τ h).bind fun d h1 => (xs τ h1).bind fun ds h2 => .ok (d :: ds) h2
variable {es : List Expr} {xs : EA}
theorem sa_nil : SA ca X W [] aNil := PA.imp pa_nil fun σ H Q ⟨μ, F, τ, h, A, p⟩ => p.ok A.rel [] .nil
theorem sa_cons {x : ED} (hx : SD ca X W e x) (hxs : SA ca X W es xs) (hs : starEach (e :: es) X.env = (false, eval e X.env) :: starEach es X.env) : SA ca X W (e :: es) (aCons x xs) := PA.imp (pa_cons hx hxs hs) fun σ H Q ⟨μ, F, τ, h, A, p⟩ =>
  ⟨μ, F, τ, h, A, p.bind.imp fun d μ1 F1 H1 h1 E1 R1 q v V => ⟨μ1, F1, τ, h1, A.ext E1 R1, q.bind.imp fun ds μ2 F2 H2 h2 E2 R2 q2 vs Vs => q2.ok R2 _ (.cons (E2.vr V) Vs)⟩⟩
def eTup (xs : EA) : ED := fun τ h => (xs τ h).bind fun ds h1 => if ds.length ≤ sizeLine then .ok (.tup ds) h1 else .stuck
def eLst (xs : EA) : EX := fun τ h => (xs τ h).bind fun ds h1 => if ds.length ≤ sizeLine then .ok (.n (.lst ds)) h1 else .stuck
theorem sd_tup {x1} (h : SA ca X W es xs) : SD ca X W (.Tuple es x1 pos) (eTup xs) := PE.imp (pe_tup h) fun σ H Q ⟨μ, F, τ, h, A, p⟩ => ⟨μ, F, τ, h, A, p.bind.imp fun ds μ1 F1 H1 h1 E1 R1 q vs Vs => by
  by_cases hC : ds.length ≤ sizeLine
  · rw [if_pos hC] at q
    refine ⟨by rw [Vs.length]; exact hC, fun l hl => ?_⟩
    obtain ⟨E2, R2⟩ := fzNew (b := τ.b) R1 hl (.tup vs)
    exact q _ _ _ E2 R2 _ (.tup upd_same (E2.vrs Vs))
  · rw [if_neg hC] at q
    exact q.elim⟩
theorem se_lst (h : SA ca X W es xs) : SE ca X W (.List es pos) (eLst xs) := PE.imp (pe_lst h) fun σ H Q ⟨μ, F, τ, h, A, p⟩ => ⟨μ, F, τ, h, A, p.bind.imp fun ds μ1 F1 H1 h1 E1 R1 q vs Vs => by
  by_cases hC : ds.length ≤ sizeLine
  · rw [if_pos hC] at q
    refine ⟨by rw [Vs.length]; exact hC, fun l hl => ?_⟩
    obtain ⟨E2, R2, w⟩ := neNew (b := τ.b) R1 hl (.lst vs) (o := .lst ds) fun H' q => ⟨vs, q, Vs⟩
    exact q _ _ _ E2 R2 _ (RR.back E1 w)
  · rw [if_neg hC] at q
    exact q.elim⟩
/-! ### attributes -/
def fFld (cs : List Nat) (i : Nat) : F1 := fun x h => match x with
  | .obj c fs => if c ∈ cs then (match fs[i]? with | some d => .ok (.v d) h | none => .stuck) else .stuck
  | .ref n => match h[n]? with
    | some (.ins c fs) => if c ∈ cs then (match fs[i]? with | some d => .ok (.v d) h | none => .stuck) else .stuck
    | _ => .stuck
  | _ => .stuck
theorem fld_at {f : Str} : ∀ {fs : List (Str × V)} {ns : List Str} {vs : List V} {i : Nat} {v : V}, fs.map (·.1) = ns → ns.Nodup → ns[i]? = some f → fs.map (·.2) = vs → vs[i]? = some v → fs.lookup f = some v
  | [], _, _, i, v, e1, _, e3, e4, e5 => by subst e4; simp at e5
  | (g, u) :: fs, ns, vs, 0, v, e1, nd, e3, e4, e5 => by
    subst e1 e4
    simp only [List.map_cons, List.getElem?_cons_zero, Option.some.injEq] at e3 e5
    subst e3 e5
    simp
  | (g, u) :: fs, ns, vs, i + 1, v, e1, nd, e3, e4, e5 => by
    subst e1 e4
    simp only [List.map_cons, List.getElem?_cons_succ] at e3 e5
    rw [List.map_cons, List.nodup_cons] at nd
    have hne : ¬ (f == g) = true := by
      intro q
      have q' : f = g := by simpa using q
      subst q'
      exact nd.1 (List.mem_of_getElem? e3)
    rw [List.lookup_cons]
    simp only [hne]
    exact fld_at rfl nd.2 e3 rfl e5
theorem se_fld {cs : List Nat} {i : Nat} {f : Str} {x : ED} (hx : SD ca X W e x) (hb : attributeBase e f X.env (eval e X.env) = eval e X.env)
    (hc : ∀ c ∈ cs, Cls X.K (ca.ad c) ∧ NoAttr X.K (ca.ad c) f ∧ (ca.nm c).Nodup ∧ (ca.nm c)[i]? = some f) : SE ca X W (.Attribute e f pos) (e1 (fFld cs i) x) := PE.imp (pe_fld hx hb) fun σ H Q ⟨μ, F, τ, h, A, p⟩ => ⟨μ, F, τ, h, A, p.bind.imp fun d μ1 F1 H1 h1 E1 R1 q v Vr => by
  have go : ∀ {a dx : Addr} {c : Nat} {fs : List (Str × V)} {fds : List D}, v = .ref a → H1 a = some (.ins (ca.ad c) dx fs) → fs.map (·.1) = (ca.nm c).take fds.length → VRs ca μ1 F1 (fs.map (·.2)) fds →
      (PostG ca τ.b μ1 F1 H1 h1 (if c ∈ cs then (match fds[i]? with | some d => .ok (.v d) h1 | none => .stuck) else .stuck) (wx ca W σ) fun r μ2 F2 H2 _ => ∀ v, RR ca μ2 F2 H H2 v r → Q v H2) →
      ∃ a C dx fs v', v = .ref a ∧ H1 a = some (.ins C dx fs) ∧ Cls X.K C ∧ NoAttr X.K C f ∧ fs.lookup f = some v' ∧ Q v' H1 := by
    intro a dx c fs fds e1 e2 e3 r q
    by_cases hm : c ∈ cs
    · rw [if_pos hm] at q
      obtain ⟨k1, k2, k3, k4⟩ := hc c hm
      cases ei : fds[i]? with
      | none => rw [ei] at q; exact q.elim
      | some z =>
        rw [ei] at q
        obtain ⟨w, ew, rw'⟩ := r.get ei
        have hi : i < fds.length := (List.getElem?_eq_some_iff.mp ei).1
        refine ⟨a, _, dx, fs, w, e1, e2, k1, k2, fld_at e3 (List.Nodup.sublist (List.take_sublist _ _) k3) ?_ rfl ew, q.ok R1 _ rw'⟩
        rw [List.getElem?_take, if_pos hi]; exact k4
    · rw [if_neg hm] at q
      exact q.elim
  cases Vr with
  | obj e k r => exact go rfl (R1.fz _ _ e) k r q
  | ref e =>
    rename_i a n
    unfold fFld at q
    dsimp only at q
    split at q
    · rename_i c fds q2
      obtain ⟨dx, fs, w1, w2, w3⟩ := R1.ob n _ _ e q2
      exact go rfl w1 w2 w3 q
    · exact q.elim
  | _ => exact (show False from q).elim⟩
end
end Z
set_option Elab.async false
set_option linter.all false
set_option maxRecDepth 100000
set_option maxHeartbeats 1000000
/-! Z7: statements; defs and their calls. -/
namespace Z
open PySem PySem.Spec L2
section
variable {ca : Cn} {X : Cx} {W : WF} {pos : Pos} {e a b c : Expr}
/-! ### from a new object to an own one; an own one frozen -/
def eAl (x : EX) : ED := fun τ h => (x τ h).bind fun r h1 => match r with
  | .v d => .ok d h1
  | .n o => .ok (.ref h1.length) (h1 ++ [o])
theorem sd_al {x : EX} (hx : SE ca X W e x) : SD ca X W e (eAl x) := PE.imp hx fun σ H Q ⟨μ, F, τ, h, A, p⟩ => ⟨μ, F, τ, h, A, by
  unfold eAl at p
  cases hr : x τ h with
  | stuck => rw [hr] at p; exact p.elim
  | exc c h1 => rw [hr] at p; exact p
  | ok r h1 =>
    rw [hr] at p
    intro μ1 F1 H1 E1 R1 v V
    cases r with
    | v d => exact p μ1 F1 H1 E1 R1 v V
    | n o =>
      obtain ⟨a, rfl, h0, hd, hm, hF, ho⟩ := V
      have p' : PostG ca τ.b μ F H h (.ok (.ref h1.length) (h1 ++ [o])) (wx ca W σ) fun d μ1 F1 H1 _ => ∀ v, VR ca μ1 F1 v d → Q v H1 := p
      refine p' _ _ _ (E1.alloc h0 (Nat.le_trans A.bl (E1.len A.rel R1))) (R1.alloc hd hm hF ho) _ (.ref ?_)
      rw [← R1.len]
      simp⟩
/-- an own object of this frame, frozen -/
def fzr (b : Nat) (d : D) (h : Own) : Res D := match d with
  | .ref m => if b ≤ m then match h[m]? with
    | some o => match frzO o with
      | some d => .ok d (h.set m .dead)
      | none => .stuck
    | none => .stuck else .stuck
  | d => .ok d h
def eFz (x : ED) : ED := fun τ h => (x τ h).bind fun d h1 => fzr τ.b d h1
theorem frzO_dead {o : O} {d : D} (h : frzO o = some d) : o ≠ .dead := by rintro rfl; cases h
theorem frzO_stb {o : O} {d : D} (h : frzO o = some d) : stb o = false := by cases o <;> first | rfl | cases h
theorem fz_of {K : PySem.W.Frag} {μ : List Addr} {F H : Hp} {a : Addr} {o : O} {d : D} (ho : OR ca μ F H a o) (e : frzO o = some d) (hF : F a = none) : ∃ u, H a = some u ∧ VR ca μ (upd F a u) (.ref a) d := frz_ok ho e hF
theorem sd_fz {x : ED} (hx : SD ca X W e x) : SD ca X W e (eFz x) := PE.imp hx fun σ H Q ⟨μ, F, τ, h, A, p⟩ => ⟨μ, F, τ, h, A, p.bind.imp fun d μ1 F1 H1 h1 E1 R1 q v V => by
  cases V with
  | ref em =>
    rename_i a m
    unfold fzr at q
    dsimp only at q
    by_cases hb : τ.b ≤ m
    · rw [if_pos hb] at q
      cases e0 : h1[m]? with
      | none => rw [e0] at q; exact q.elim
      | some o =>
        rw [e0] at q
        dsimp only at q
        cases ef : frzO o with
        | none => rw [ef] at q; exact q.elim
        | some d =>
          rw [ef] at q
          have nd := frzO_dead ef
          obtain ⟨u, hu, hv⟩ := frz_ok (R1.ob m a o em e0) ef (R1.sep m a o em e0 nd)
          exact q μ1 _ H1 (Ext.refl.fzOwn R1 em e0 nd (frzO_stb ef)) (R1.fzOwn em e0 nd hu) _ hv
    · rw [if_neg hb] at q; exact q.elim
  | non => exact q.ok R1 _ .non
  | bl b => exact q.ok R1 _ (.bl b)
  | int b => exact q.ok R1 _ (.int b)
  | str b => exact q.ok R1 _ (.str b)
  | tup a b => exact q.ok R1 _ (.tup a b)
  | lst a b => exact q.ok R1 _ (.lst a b)
  | dK a b c => exact q.ok R1 _ (.dK a b c)
  | dT a b c => exact q.ok R1 _ (.dT a b c)
  | obj a b c => exact q.ok R1 _ (.obj a b c)
  | ro a => exact q.ok R1 _ (.ro a)⟩

/-! ### statements -/
inductive SRes where
  | next (s : Sl) (h : Own) | ret (r : R) (h : Own) | brk (s : Sl) (h : Own) | cnt (s : Sl) (h : Own) | exc (c : Nat) (s : Sl) (h : Own) | stuck
abbrev ST := Fm → Own → SRes
def PostS (ca : Cn) (W : WF) (b : Nat) (μ : List Addr) (F H : Hp) (h : Own) (r : SRes) (D : Ends) : Prop :=
  match r with
  | .next s h1 => ∀ μ1 F1 H1 σ1, Ext b μ F H h μ1 F1 H1 h1 → RelH ca μ1 F1 h1 H1 → SR ca μ1 F1 s σ1 → D.nx σ1 H1
  | .brk s h1 => ∀ μ1 F1 H1 σ1, Ext b μ F H h μ1 F1 H1 h1 → RelH ca μ1 F1 h1 H1 → SR ca μ1 F1 s σ1 → D.bk σ1 H1
  | .cnt s h1 => ∀ μ1 F1 H1 σ1, Ext b μ F H h μ1 F1 H1 h1 → RelH ca μ1 F1 h1 H1 → SR ca μ1 F1 s σ1 → D.ct σ1 H1
  | .ret r h1 => ∀ μ1 F1 H1 v, Ext b μ F H h μ1 F1 H1 h1 → RelH ca μ1 F1 h1 H1 → RR ca μ1 F1 H H1 v r → D.rt v H1
  | .exc c s h1 => ∀ μ1 F1 H1 σ1, Ext b μ F H h μ1 F1 H1 h1 → RelH ca μ1 F1 h1 H1 → SR ca μ1 F1 s σ1 → W (.ref (ca.ad c)) none σ1 H1
  | .stuck => False
theorem PostS.step {b : Nat} {μ μ1 : List Addr} {F F1 H H1 : Hp} {h h1 : Own} {r : SRes} {D : Ends} (E : Ext b μ F H h μ1 F1 H1 h1) (p : PostS ca W b μ F H h r D) : PostS ca W b μ1 F1 H1 h1 r D := by
  cases r with
  | stuck => exact p
  | next s h2 => exact fun μ2 F2 H2 σ2 E2 => p μ2 F2 H2 σ2 (E.trans E2)
  | brk s h2 => exact fun μ2 F2 H2 σ2 E2 => p μ2 F2 H2 σ2 (E.trans E2)
  | cnt s h2 => exact fun μ2 F2 H2 σ2 E2 => p μ2 F2 H2 σ2 (E.trans E2)
  | exc c s h2 => exact fun μ2 F2 H2 σ2 E2 => p μ2 F2 H2 σ2 (E.trans E2)
  | ret r h2 => exact fun μ2 F2 H2 v E2 R2 V => p μ2 F2 H2 v (E.trans E2) R2 (RR.back E V)
def rdS (ca : Cn) (W : WF) (x : ST) : TS := fun D σ H => ∃ μ F τ h, At ca μ F τ h σ H ∧ PostS ca W τ.b μ F H h (x τ h) D
def SS (ca : Cn) (X : Cx) (W : WF) (st : Stmt) (x : ST) : Prop := PS X st (rdS ca W x)
def SSs (ca : Cn) (X : Cx) (W : WF) (st : List Stmt) (x : ST) : Prop := PSs X st (rdS ca W x)
/-- an expression within a statement -/
def sE {α : Type} (x : Fm → Own → Res α) (f : α → Fm → Own → SRes) : ST := fun τ h => match x τ h with
  | .ok a h1 => f a τ h1
  | .exc c h1 => .exc c τ.s h1
  | .stuck => .stuck
theorem sE_post {α : Type} {x : Fm → Own → Res α} {f : α → Fm → Own → SRes} {μ : List Addr} {F H : Hp} {h : Own} {τ : Fm} {σ : L2.St} {D : Ends} (A : At ca μ F τ h σ H) (p : PostS ca W τ.b μ F H h (sE x f τ h) D) :
    PostG ca τ.b μ F H h (x τ h) (wx ca W σ) fun a μ1 F1 H1 h1 => PostS ca W τ.b μ1 F1 H1 h1 (f a τ h1) D := by
  unfold sE at p
  cases hx : x τ h with
  | stuck => rw [hx] at p; exact p
  | exc c h1 => rw [hx] at p; exact fun μ1 F1 H1 E1 R1 => p μ1 F1 H1 σ E1 R1 (E1.sr A.sl)
  | ok a h1 => rw [hx] at p; exact fun μ1 F1 H1 E1 R1 => p.step E1
def sPass : ST := fun τ h => .next τ.s h
def sSeq (a b : ST) : ST := fun τ h => match a τ h with
  | .next s h1 => b ⟨τ.b, s⟩ h1
  | r => r
def sNever : ST := fun _ _ => .stuck
def sBrk : ST := fun τ h => .brk τ.s h
def sCnt : ST := fun τ h => .cnt τ.s h
variable {st : Stmt} {rest : List Stmt} {x y : ST}
theorem ss_pass : SS ca X W (.Pass pos) sPass := PS.imp ps_pass fun D σ H ⟨μ, F, τ, h, A, p⟩ => p μ F H σ Ext.refl A.rel A.sl
theorem ss_brk : SS ca X W (.Break pos) sBrk := PS.imp ps_break fun D σ H ⟨μ, F, τ, h, A, p⟩ => p μ F H σ Ext.refl A.rel A.sl
theorem ss_cnt : SS ca X W (.Continue pos) sCnt := PS.imp ps_continue fun D σ H ⟨μ, F, τ, h, A, p⟩ => p μ F H σ Ext.refl A.rel A.sl
theorem sss_nil : SSs ca X W [] sPass := PSs.imp pss_nil fun D σ H ⟨μ, F, τ, h, A, p⟩ => p μ F H σ Ext.refl A.rel A.sl
theorem ss_never : SS ca X W st sNever := PS.imp ps_never fun D σ H ⟨μ, F, τ, h, A, p⟩ => p
theorem sss_never {l : List Stmt} : SSs ca X W l sNever := PSs.imp pss_never fun D σ H ⟨μ, F, τ, h, A, p⟩ => p
theorem sss_one (h : SS ca X W st x) : SSs ca X W [st] x := pss_one h
theorem sss_cons (h1 : SS ca X W st x) (h2 : SSs ca X W rest y) : SSs ca X W (st :: rest) (sSeq x y) := PSs.imp (pss_cons h1 h2) fun D σ H ⟨μ, F, τ, h, A, p⟩ => ⟨μ, F, τ, h, A, by
  unfold sSeq at p
  cases hx : x τ h with
  | next s h1 =>
    rw [hx] at p
    exact fun μ1 F1 H1 σ1 E1 R1 S1 => ⟨μ1, F1, ⟨τ.b, s⟩, h1, ⟨R1, S1, Nat.le_trans A.bl (E1.len A.rel R1)⟩, p.step E1⟩
  | _ => rw [hx] at p; exact p⟩
def sX (x : ED) : ST := sE x fun _ τ h => .next τ.s h
theorem ss_expr {x : ED} (hx : SD ca X W e x) (hs : swapsWith e none pos.line X.env = pure false) : SS ca X W (.Expr e pos) (sX x) := PS.imp (ps_expr hx hs) fun D σ H ⟨μ, F, τ, h, A, p⟩ => ⟨μ, F, τ, h, A, (sE_post A p).imp fun d μ1 F1 H1 h1 E1 R1 q v V => q μ1 F1 H1 σ Ext.refl R1 (E1.sr A.sl)⟩
def sRet (x : EX) : ST := sE x fun r _ h => .ret r h
theorem PostS.retR {b : Nat} {μ μ1 : List Addr} {F F1 H H1 : Hp} {h h1 : Own} {x : Res R} {D : Ends} : True := trivial
theorem ss_ret {x : EX} (hx : SE ca X W e x) : SS ca X W (.Return (some e) pos) (sRet x) := PS.imp (ps_ret hx) fun D σ H ⟨μ, F, τ, h, A, p⟩ => ⟨μ, F, τ, h, A, by
  unfold sRet sE at p
  cases hr : x τ h with
  | stuck => rw [hr] at p; exact p
  | exc c h1 => rw [hr] at p; exact fun μ1 F1 H1 E1 R1 => p μ1 F1 H1 σ E1 R1 (E1.sr A.sl)
  | ok r h1 => rw [hr] at p; exact fun μ1 F1 H1 E1 R1 v V => p μ1 F1 H1 v E1 R1 V⟩
def sRetN : ST := fun _ h => .ret (.v .non) h
theorem ss_retN : SS ca X W (.Return none pos) sRetN := PS.imp ps_retN fun D σ H ⟨μ, F, τ, h, A, p⟩ => p μ F H .non Ext.refl A.rel (show VR ca _ _ _ _ from .non)
def sIf (t : EB) (a b : ST) : ST := sE t fun k τ h => if k = true then a τ h else b τ h
theorem ss_if {tc : EB} {l1 l2 : List Stmt} (hc : SB ca X W c tc) (h1 : SSs ca X W l1 x) (h2 : SSs ca X W l2 y) : SS ca X W (.If c l1 l2 pos) (sIf tc x y) := PS.imp (ps_if hc h1 h2) fun D σ H ⟨μ, F, τ, h, A, p⟩ => ⟨μ, F, τ, h, A, (sE_post A p).imp fun k μ1 F1 H1 h1 E1 R1 q => by
  cases k with
  | true => show rdS ca W x D σ H1; rw [if_pos rfl] at q; exact ⟨μ1, F1, τ, h1, A.ext E1 R1, q⟩
  | false => show rdS ca W y D σ H1; rw [if_neg Bool.false_ne_true] at q; exact ⟨μ1, F1, τ, h1, A.ext E1 R1, q⟩⟩
/-! ### targets -/
abbrev ET := D → Fm → Own → SRes
def rdG (ca : Cn) (W : WF) (g : ET) : TG := fun v σ H Q => ∃ μ F τ h d, At ca μ F τ h σ H ∧ VR ca μ F v d ∧ ∃ s1 h1, g d τ h = .next s1 h1 ∧ ∀ μ1 F1 H1 σ1, Ext τ.b μ F H h μ1 F1 H1 h1 → RelH ca μ1 F1 h1 H1 → SR ca μ1 F1 s1 σ1 → Q σ1 H1
def SG (ca : Cn) (X : Cx) (W : WF) (tg : Expr) (g : ET) : Prop := PG X tg (rdG ca W g)
theorem PG.imp {X : Cx} {e : Expr} {t t' : TG} (h : PG X e t) (i : ∀ v σ H Q, t' v σ H Q → t v σ H Q) : PG X e t' := ⟨fun pins s σ H v u Q I r q => h.run pins s σ H v u Q I r (i v σ H Q q)⟩
theorem PGs.imp {X : Cx} {e : List Expr} {t t' : TGs} (h : PGs X e t) (i : ∀ v σ H Q, t' v σ H Q → t v σ H Q) : PGs X e t' := ⟨fun pins s σ H v u Q I r q => h.run pins s σ H v u Q I r (i v σ H Q q)⟩
def tN (i : Nat) : ET := fun d τ h => .next (τ.s.set i (some d)) h
theorem sg_name {tg : Expr} {i : Nat} (h : PG X tg (gName i)) : SG ca X W tg (tN i) := PG.imp h fun v σ H Q ⟨μ, F, τ, h, d, A, V, s1, h1, e, p⟩ => by
  cases e
  exact p μ F H _ Ext.refl A.rel (A.sl.set i V)
abbrev ETs := List D → Fm → Own → SRes
def tNil : ETs := fun ds τ h => match ds with
  | [] => .next τ.s h
  | _ => .stuck
def tCons (g : ET) (gs : ETs) : ETs := fun ds τ h => match ds with
  | d :: ds => match g d τ h with
    | .next s h1 => gs ds ⟨τ.b, s⟩ h1
    | _ => .stuck
  | [] => .stuck
def rdGs (ca : Cn) (W : WF) (g : ETs) : TGs := fun vs σ H Q => ∃ μ F τ h ds, At ca μ F τ h σ H ∧ VRs ca μ F vs ds ∧ ∃ s1 h1, g ds τ h = .next s1 h1 ∧ ∀ μ1 F1 H1 σ1, Ext τ.b μ F H h μ1 F1 H1 h1 → RelH ca μ1 F1 h1 H1 → SR ca μ1 F1 s1 σ1 → Q σ1 H1
def SGs (ca : Cn) (X : Cx) (W : WF) (tg : List Expr) (g : ETs) : Prop := PGs X tg (rdGs ca W g)
theorem sgs_nil : SGs ca X W [] tNil := PGs.imp pgs_nil fun vs σ H Q ⟨μ, F, τ, h, ds, A, V, s1, h1, e, p⟩ => by
  cases V with
  | nil => cases e; exact ⟨rfl, p μ F H σ Ext.refl A.rel A.sl⟩
  | cons _ _ => cases e
theorem sgs_cons {es : List Expr} {g : ET} {gs : ETs} (h1 : SG ca X W e g) (h2 : SGs ca X W es gs) (hs : (assignEach (e :: es) X.env).map (·.2) = assign e X.env :: (assignEach es X.env).map (·.2)) : SGs ca X W (e :: es) (tCons g gs) := PGs.imp (pgs_cons h1 h2 hs) fun vs σ H Q ⟨μ, F, τ, h, ds, A, V, s1, h1, e, p⟩ => by
  cases V with
  | nil => cases e
  | @cons v d vs ds r t =>
    unfold tCons at e
    dsimp only at e
    cases hg : g d τ h with
    | next s h2 =>
      rw [hg] at e
      exact ⟨_, _, rfl, μ, F, τ, h, d, A, r, s, h2, hg, fun μ1 F1 H1 σ1 E1 R1 S1 => ⟨μ1, F1, ⟨τ.b, s⟩, h2, ds, ⟨R1, S1, Nat.le_trans A.bl (E1.len A.rel R1)⟩, E1.vrs t, s1, h1, e, fun μ2 F2 H2 σ2 E2 R2 S2 => p μ2 F2 H2 σ2 (E1.trans E2) R2 S2⟩⟩
    | _ => rw [hg] at e; cases e
def tTup (gs : ETs) : ET := fun d τ h => match d with
  | .tup ds => gs ds τ h
  | _ => .stuck
theorem gs_len {gs : ETs} {n : Nat} : True := trivial
/-- n targets want n items -/
def LenOk (gs : ETs) (n : Nat) : Prop := ∀ ds τ h s1 h1, gs ds τ h = .next s1 h1 → ds.length = n
theorem len_nil : LenOk tNil 0 := fun ds τ h s1 h1 e => by
  cases ds with
  | nil => rfl
  | cons _ _ => cases e
theorem len_cons {g : ET} {gs : ETs} {n : Nat} (h : LenOk gs n) : LenOk (tCons g gs) (n + 1) := fun ds τ h' s1 h1 e => by
  cases ds with
  | nil => cases e
  | cons d ds =>
    unfold tCons at e
    dsimp only at e
    cases hg : g d τ h' with
    | next s h2 => rw [hg] at e; rw [List.length_cons, h ds _ _ _ _ e]
    | _ => rw [hg] at e; cases e
theorem sg_tup {es : List Expr} {k n : Nat} {gs : ETs} (hc : X.calm = true) (h : SGs ca X W es gs) (hl : LenOk gs n) (hn : (assignEach es X.env).length = n) (hst : (assignEach es X.env).findIdx? (·.1) = none) : SG ca X W (.Tuple es k pos) (tTup gs) :=
  PG.imp (pg_tup hc h hn hst) fun v σ H Q ⟨μ, F, τ, h, d, A, V, s1, h1, e, p⟩ => by
    cases V with
    | tup q r => exact ⟨_, _, rfl, SqT.of (A.rel.fz _ _ q), by rw [r.length]; exact hl _ _ _ _ _ e, μ, F, τ, h, _, A, r, s1, h1, e, p⟩
    | _ => cases e
/-! ### assignments -/
def sA (x : ED) (g : ET) : ST := sE x fun d τ h => match g d τ h with
  | .next s h1 => .next s h1
  | _ => .stuck
theorem as_rd {x : ED} {g : ET} : ∀ D σ H, rdS ca W (sA x g) D σ H → tAsg (rdD ca W x) (rdG ca W g) D σ H := fun D σ H ⟨μ, F, τ, h, A, p⟩ => ⟨μ, F, τ, h, A, (sE_post A p).imp fun d μ1 F1 H1 h1 E1 R1 q v V => by
  cases hg : g d τ h1 with
  | next s h2 => rw [hg] at q; exact ⟨μ1, F1, τ, h1, d, A.ext E1 R1, V, s, h2, hg, fun μ2 F2 H2 σ2 E2 R2 S2 => q μ2 F2 H2 σ2 E2 R2 S2⟩
  | _ => rw [hg] at q; exact q.elim⟩
theorem ss_asg {tg : Expr} {x : ED} {g : ET} (hx : SD ca X W e x) (hg : SG ca X W tg g) (hs : swapsWithSole [tg] e pos.line X.env = pure false) (hw : swappedStores [tg] e X.env = pure none)
    (h1 : (assignEach [tg] X.env).map (·.2) = [assign tg X.env]) : SS ca X W (.Assign [tg] e pos) (sA x g) := PS.imp (ps_asg hx hg hs hw h1) as_rd
def sSet (i : Nat) (x : ED) : ST := sE x fun d τ h => .next (τ.s.set i (some d)) h
theorem set_rd {i : Nat} {x : ED} : ∀ D σ H, rdS ca W (sSet i x) D σ H → tAsg (rdD ca W x) (gName i) D σ H := fun D σ H ⟨μ, F, τ, h, A, p⟩ => ⟨μ, F, τ, h, A, (sE_post A p).imp fun d μ1 F1 H1 h1 E1 R1 q v V => q μ1 F1 H1 _ Ext.refl R1 ((E1.sr A.sl).set i V)⟩
/-- name = e -/
theorem ss_set {i : Nat} {x : ED} {n : Str} {pos' : Pos} (hN : X.N.Nodup) (hi : X.N[i]? = some n) (hx' : Loc X.env.scope n) (hx : SD ca X W e x) (hs : swapsWith e (some (.Name n pos')) pos.line X.env = pure false) (hf : X.fn n = true ∨ X.env.scope.names.lookup n = some .local) :
    SS ca X W (.Assign [.Name n pos'] e pos) (sSet i x) := PS.imp (ps_set hN hi hx' hx hs hf) set_rd
end
end Z
set_option Elab.async false
set_option linter.all false
set_option maxRecDepth 100000
set_option maxHeartbeats 1000000
/-! Z8: defs and calls; stores. -/
namespace Z
open PySem PySem.Spec L2
section
variable {ca : Cn} {X : Cx} {W : WF} {pos : Pos} {e a b c : Expr}
/-! ### a def -/
/-- what a def's body does: the base, the arguments, the heap -/
abbrev BD := Nat → List D → Own → SRes
def body (N : Nat) (x : ST) : BD := fun b ds h => x ⟨b, ds.map some ++ List.replicate (N - ds.length) none⟩ h
/-- a def's promise -/
def PostF (ca : Cn) (b : Nat) (μ : List Addr) (F H : Hp) (h : Own) (r : SRes) (Q : VK) (E : XK) : Prop :=
  match r with
  | .next _ h1 => ∀ μ1 F1 H1, Ext b μ F H h μ1 F1 H1 h1 → RelH ca μ1 F1 h1 H1 → Q .non H1
  | .ret r h1 => ∀ μ1 F1 H1 v, Ext b μ F H h μ1 F1 H1 h1 → RelH ca μ1 F1 h1 H1 → RR ca μ1 F1 H H1 v r → Q v H1
  | .exc c _ h1 => ∀ μ1 F1 H1, Ext b μ F H h μ1 F1 H1 h1 → RelH ca μ1 F1 h1 H1 → E (.ref (ca.ad c)) none H1
  | _ => False
def spB (ca : Cn) (n : Nat) (G : BD) : Sp := fun vs H Q E => ∃ μ F h ds b, RelH ca μ F h H ∧ VRs ca μ F vs ds ∧ ds.length = n ∧ b ≤ h.length ∧ PostF ca b μ F H h (G b ds h) Q E
section
variable {P : Program} {w : World} {K : PySem.W.Frag} {mg : Str → Option Value} {base : Heap}
theorem def_ok {x qual : Str} {st : Stmt} {f : Addr} {fd : FuncData} {N ps : List Str} {k : Nat} {bd : ST} (F : Fun K x qual st f fd) (S : FnScope N ps (defScope st))
    (hb : ∀ (cdv : Value) (A : Around) (outer : List Env) (s : Shared) (H : Hp) (E : XK), Room k (A.deeper (PyProof.Rows.envOfC qual (defScope st) s.heap.objs.size f cdv)) →
      SSs ca (cxOf (L2.CX P w) P w K mg base N qual (defScope st) f cdv A outer s H E) (fun cls d _ H' => E cls d H') (defBody st) bd) :
    FnOk P w K mg base (L2.CX P w) (k + 1) f fd ps (spB ca ps.length (body N.length bd)) := by
  refine F.okX S (fun vs H Q E ⟨μ, F, h, ds, b, R, V, hl, _, _⟩ => by rw [V.length, hl]) (fun cdv A outer s H vs Q E hr ⟨μ, F, h, ds, b, R, V, hl, hbl, p⟩ => ?_)
  refine ⟨_, hb cdv A outer s H E hr, μ, F, ⟨b, ds.map some ++ List.replicate (N.length - ds.length) none⟩, h, ⟨R, ⟨?_, ?_⟩, hbl⟩, ?_⟩
  · show _ = (L2.start N vs).length
    unfold L2.start
    simp [V.length]
  · intro i d hi
    by_cases hlt : i < ds.length
    · rw [List.getElem?_append_left (by simpa using hlt), List.getElem?_map] at hi
      cases e1 : ds[i]? with
      | none => rw [e1] at hi; cases hi
      | some d' =>
        rw [e1] at hi
        cases hi
        obtain ⟨v, ev, rv⟩ := V.get e1
        refine ⟨v, ?_, rv⟩
        unfold L2.start
        rw [List.getElem?_append_left (by rw [List.length_map, V.length]; exact hlt), List.getElem?_map, ev]
        rfl
    · rw [List.getElem?_append_right (by simpa using hlt), List.getElem?_replicate] at hi
      split at hi <;> cases hi
  · show PostS ca _ b μ F H h (bd ⟨b, ds.map some ++ List.replicate (N.length - ds.length) none⟩ h) _
    have p' : PostF ca b μ F H h (bd ⟨b, ds.map some ++ List.replicate (N.length - ds.length) none⟩ h) Q E := p
    generalize bd ⟨b, ds.map some ++ List.replicate (N.length - ds.length) none⟩ h = r at p'
    cases r with
    | next s h1 => exact fun μ1 F1 H1 σ1 E1 R1 S1 => p' μ1 F1 H1 E1 R1
    | ret r h1 => exact p'
    | exc c s h1 => exact fun μ1 F1 H1 σ1 E1 R1 S1 => p' μ1 F1 H1 E1 R1
    | _ => exact p'.elim
end
/-! ### the end of a call -/
def notDead : O → Bool
  | .dead => false
  | .lkK _ => false
  | .lkT _ => false
  | .tb _ => false
  | _ => true
def exitR (b : Nat) (r : R) (h1 : Own) : Res R := match r with
  | .v (.ref m) => if m < b then .ok (.v (.ref m)) (h1.take b) else match h1[m]? with
    | some o => if nrfO o = true ∧ notDead o = true then .ok (.n o) (h1.take b) else .stuck
    | none => .stuck
  | .v d => if nrf d = true then .ok (.v d) (h1.take b) else .stuck
  | .n o => if nrfO o = true then .ok (.n o) (h1.take b) else .stuck
def callB (G : BD) (ds : List D) (h : Own) : Res R := match G h.length ds h with
  | .next _ h1 => exitR h.length (.v .non) h1
  | .ret r h1 => exitR h.length r h1
  | .exc c _ h1 => .exc c (h1.take h.length)
  | _ => .stuck
section
variable {μ μ1 : List Addr} {F F1 H H1 : Hp} {h h1 : Own}
/-- the own heap cut back behind a call -/
theorem cut_ok (R : RelH ca μ F h H) (E : Ext h.length μ F H h μ1 F1 H1 h1) (R1 : RelH ca μ1 F1 h1 H1) : RelH ca μ F1 (h1.take h.length) H1 ∧ ∀ b, b ≤ h.length → Ext b μ F H h μ F1 H1 (h1.take h.length) := by
  obtain ⟨m, em, nm⟩ := E.pre
  have hl : h.length ≤ h1.length := E.len R R1
  have ix : ∀ (n : Nat) (a : Addr), μ[n]? = some a → μ1[n]? = some a := E.ix
  have tk : ∀ (n : Nat) (o : O), (h1.take h.length)[n]? = some o → n < h.length ∧ h1[n]? = some o := fun n o q => by
    have hn : n < h.length := by
      have := (List.getElem?_eq_some_iff.mp q).1
      rw [List.length_take] at this
      omega
    rw [List.getElem?_take, if_pos hn] at q
    exact ⟨hn, q⟩
  refine ⟨⟨by rw [List.length_take, R.len]; omega, R.nd, R1.fz, fun n a o e1 e2 e3 => ?_, fun a ha => R1.dom a (by rw [em]; exact List.mem_append_left _ ha), fun n a o e1 e2 => ?_⟩, fun b hb => ?_⟩
  · exact R1.sep n a o (ix n a e1) (tk n o e2).2 e3
  · obtain ⟨hn, q⟩ := tk n o e2
    have o1 := R1.ob n a o (ix n a e1) q
    rcases E.keep n o hn q with z | z | ⟨o0, z, s⟩
    · exact (R.ob n a o e1 z).back em o1
    · exact o1.nrf z
    · exact o1.old em fun r hr => (R.ob n a o0 e1 z).refs r (subR_iff.mp s r hr)
  · refine ⟨⟨[], by simp, by simp⟩, E.fz, E.frame, E.dom, E.newF, fun k o hk q => ?_, fun n a o f1 f2 f3 => ?_⟩
    · obtain ⟨hn, q⟩ := tk k o q
      exact E.keep k o hn q
    · obtain ⟨w1, w2⟩ := E.st n a o f1 f2 f3
      rw [List.getElem?_take, if_pos (List.getElem?_eq_some_iff.mp f2).1]
      exact ⟨w1, w2⟩
theorem exit_ok {r : R} {Wx : Nat → Hp → Prop} {b : Nat} {v : V} {Q : VK} (R : RelH ca μ F h H) (hb : b ≤ h.length) (E : Ext h.length μ F H h μ1 F1 H1 h1) (R1 : RelH ca μ1 F1 h1 H1) (V1 : RR ca μ1 F1 H H1 v r)
    (p : PostG ca b μ F H h (exitR h.length r h1) Wx fun r μ1 F1 H1 _ => ∀ v, RR ca μ1 F1 H H1 v r → Q v H1) : Q v H1 := by
  obtain ⟨Rc, Ec⟩ := cut_ok R E R1
  obtain ⟨m, em, nm⟩ := E.pre
  cases r with
  | n o =>
    have p' : PostG ca b μ F H h (if nrfO o = true then .ok (.n o) (h1.take h.length) else .stuck) Wx fun r μ1 F1 H1 _ => ∀ v, RR ca μ1 F1 H H1 v r → Q v H1 := p
    by_cases q : nrfO o = true
    · rw [if_pos q] at p'
      obtain ⟨a, e, h0, hd, hm, hF, ho⟩ := V1
      exact p' μ F1 H1 (Ec b hb) Rc v ⟨a, e, h0, hd, fun z => hm (by rw [em]; exact List.mem_append_left _ z), hF, ho.nrf q⟩
    · rw [if_neg q] at p'; exact p'.elim
  | v d =>
    have V1' : VR ca μ1 F1 v d := V1
    have plain : nrf d = true → PostG ca b μ F H h (.ok (.v d) (h1.take h.length)) Wx (fun r μ1 F1 H1 _ => ∀ v, RR ca μ1 F1 H H1 v r → Q v H1) → Q v H1 := fun q p => p μ F1 H1 (Ec b hb) Rc v (show VR ca _ _ _ _ from V1'.nrf q)
    cases d with
    | ref n =>
      have p' : PostG ca b μ F H h (if n < h.length then .ok (.v (.ref n)) (h1.take h.length) else match h1[n]? with
        | some o => if nrfO o = true ∧ notDead o = true then .ok (.n o) (h1.take h.length) else .stuck
        | none => .stuck) Wx fun r μ1 F1 H1 _ => ∀ v, RR ca μ1 F1 H H1 v r → Q v H1 := p
      cases V1' with
      | ref en =>
        rename_i a
        by_cases hn : n < h.length
        · rw [if_pos hn] at p'
          refine p' μ F1 H1 (Ec b hb) Rc _ (show VR ca _ _ _ _ from .ref ?_)
          rw [em, List.getElem?_append_left (by rw [R.len]; exact hn)] at en
          exact en
        · rw [if_neg hn] at p'
          cases e1 : h1[n]? with
          | none => rw [e1] at p'; exact p'.elim
          | some o =>
            rw [e1] at p'
            dsimp only at p'
            by_cases q : nrfO o = true ∧ notDead o = true
            · rw [if_pos q] at p'
              have hnd : o ≠ .dead := by rintro rfl; exact Bool.false_ne_true q.2
              have hin : a ∈ m := by
                rw [em, List.getElem?_append_right (by rw [R.len]; omega)] at en
                exact List.mem_of_getElem? en
              have hnm : a ∉ μ := fun z => R.dom a z (nm a hin)
              exact p' μ F1 H1 (Ec b hb) Rc _ ⟨a, rfl, nm a hin, R1.dom a (List.mem_of_getElem? en), hnm, R1.sep n a o en e1 hnd, (R1.ob n a o en e1).nrf q.1⟩
            · rw [if_neg q] at p'; exact p'.elim
    | non => exact plain rfl (by simpa [exitR, nrf] using p)
    | bl x => exact plain rfl (by simpa [exitR, nrf] using p)
    | int x => exact plain rfl (by simpa [exitR, nrf] using p)
    | str x => exact plain rfl (by simpa [exitR, nrf] using p)
    | tup x =>
      have p' : PostG ca b μ F H h (if nrf (.tup x) = true then .ok (.v (.tup x)) (h1.take h.length) else .stuck) Wx fun r μ1 F1 H1 _ => ∀ v, RR ca μ1 F1 H H1 v r → Q v H1 := p
      by_cases q : nrf (.tup x) = true
      · rw [if_pos q] at p'; exact plain q p'
      · rw [if_neg q] at p'; exact p'.elim
    | lst x =>
      have p' : PostG ca b μ F H h (if nrf (.lst x) = true then .ok (.v (.lst x)) (h1.take h.length) else .stuck) Wx fun r μ1 F1 H1 _ => ∀ v, RR ca μ1 F1 H H1 v r → Q v H1 := p
      by_cases q : nrf (.lst x) = true
      · rw [if_pos q] at p'; exact plain q p'
      · rw [if_neg q] at p'; exact p'.elim
    | dK x =>
      have p' : PostG ca b μ F H h (if nrf (.dK x) = true then .ok (.v (.dK x)) (h1.take h.length) else .stuck) Wx fun r μ1 F1 H1 _ => ∀ v, RR ca μ1 F1 H H1 v r → Q v H1 := p
      by_cases q : nrf (.dK x) = true
      · rw [if_pos q] at p'; exact plain q p'
      · rw [if_neg q] at p'; exact p'.elim
    | dT x =>
      have p' : PostG ca b μ F H h (if nrf (.dT x) = true then .ok (.v (.dT x)) (h1.take h.length) else .stuck) Wx fun r μ1 F1 H1 _ => ∀ v, RR ca μ1 F1 H H1 v r → Q v H1 := p
      by_cases q : nrf (.dT x) = true
      · rw [if_pos q] at p'; exact plain q p'
      · rw [if_neg q] at p'; exact p'.elim
    | obj c x =>
      have p' : PostG ca b μ F H h (if nrf (.obj c x) = true then .ok (.v (.obj c x)) (h1.take h.length) else .stuck) Wx fun r μ1 F1 H1 _ => ∀ v, RR ca μ1 F1 H H1 v r → Q v H1 := p
      by_cases q : nrf (.obj c x) = true
      · rw [if_pos q] at p'; exact plain q p'
      · rw [if_neg q] at p'; exact p'.elim
    | ro x => exact plain rfl p
/-- a call, at the callee's promise -/
theorem call_post {n : Nat} {G : BD} {Wx : Nat → Hp → Prop} {b : Nat} {vs : List V} {ds : List D} {Q : VK} {E : XK} (R : RelH ca μ F h H) (hb : b ≤ h.length) (V1 : VRs ca μ F vs ds) (hn : ds.length = n)
    (hE : ∀ c H, Wx c H → E (.ref (ca.ad c)) none H) (p : PostG ca b μ F H h (callB G ds h) Wx fun r μ1 F1 H1 _ => ∀ v, RR ca μ1 F1 H H1 v r → Q v H1) : spB ca n G vs H Q E := by
  refine ⟨μ, F, h, ds, h.length, R, V1, hn, Nat.le_refl _, ?_⟩
  unfold callB at p
  cases hg : G h.length ds h with
  | next s h1 => rw [hg] at p; exact fun μ1 F1 H1 E1 R1 => exit_ok (r := .v .non) (v := .non) R hb E1 R1 (show VR ca _ _ _ _ from .non) p
  | ret r h1 => rw [hg] at p; exact fun μ1 F1 H1 v E1 R1 V => exit_ok R hb E1 R1 V p
  | exc c s h1 =>
    rw [hg] at p
    intro μ1 F1 H1 E1 R1
    obtain ⟨Rc, Ec⟩ := cut_ok R E1 R1
    exact hE _ _ (p μ F1 H1 (Ec b hb) Rc)
  | _ => rw [hg] at p; exact p.elim
end
def eCall (n : Nat) (G : BD) (xs : EA) : EX := fun τ h => (xs τ h).bind fun ds h1 => if ds.length = n then callB G ds h1 else .stuck
theorem se_call {f : Addr} {fd : FuncData} {ps : List Str} {k : Nat} {G : BD} {x : Str} {p : Pos} {es : List Expr} {xs : EA} (F : FnOk X.prog X.w X.K X.mg X.base (L2.CX X.prog X.w) k f fd ps (spB ca ps.length G)) (hr : Room k X.A) (hg : Gl X x) (hm : X.mg x = some (.ref f))
    (hk : PySem.W.keepIn X.K (.ref f) = true) (hb : Binds X.K fd ps []) (tk : Takes X W) (ha : SA ca X W (e :: es) xs) (hdb : (x == ("__debug__" : Str)) = false) (he : starEach (e :: es) X.env = (false, eval e X.env) :: starEach es X.env)
    (hpl : (backTo pos (starEach es X.env)).any (·.1) = false) : SE ca X W (.Call (.Name x p) (e :: es) [] pos) (eCall ps.length G xs) :=
  PE.imp (pe_callS F hr hg hm hk hb (fun σ => passAt tk σ) ha hdb he hpl) fun σ H Q ⟨μ, F, τ, h, A, p⟩ => ⟨μ, F, τ, h, A, p.bind.imp fun ds μ1 F1 H1 h1 E1 R1 q vs Vs => by
    by_cases hn : ds.length = ps.length
    · rw [if_pos hn] at q
      exact call_post R1 (A.ext E1 R1).bl Vs hn (fun c H z => z) (q.imp fun r μ2 F2 H2 h2 E2 R2 q2 v V => q2 v (RR.back E1 V))
    · rw [if_neg hn] at q
      exact q.elim⟩
/-! ### builtins -/
abbrev FA := List D → Own → Res R
def LkA (ca : Cn) (f : FA) (r : List V → Hp → VK → Prop) : Prop := ∀ (b : Nat) (μ : List Addr) (F H : Hp) (h : Own) (Wx : Nat → Hp → Prop) (vs : List V) (ds : List D) (Q : VK), RelH ca μ F h H → VRs ca μ F vs ds → b ≤ h.length →
  PostG ca b μ F H h (f ds h) Wx (fun r μ1 F1 H1 _ => ∀ v, RR ca μ1 F1 H H1 v r → Q v H1) → r vs H Q
def eA (f : FA) (xs : EA) : EX := fun τ h => (xs τ h).bind fun ds h1 => f ds h1
theorem se_b {f : FA} {r : List V → Hp → VK → Prop} {xs : EA} (h : PE X e (tCB r (rdA ca W xs))) (lk : LkA ca f r) : SE ca X W e (eA f xs) := PE.imp h fun σ H Q ⟨μ, F, τ, h, A, p⟩ => ⟨μ, F, τ, h, A, p.bind.imp fun ds μ1 F1 H1 h1 E1 R1 q vs Vs =>
  lk τ.b μ1 F1 H1 h1 (wx ca W σ) vs ds Q R1 Vs (A.ext E1 R1).bl (q.imp fun r μ2 F2 H2 h2 E2 R2 q2 v V => q2 v (RR.back E1 V))⟩
theorem LkA.or {f g : FA} {r s : List V → Hp → VK → Prop} (a : LkA ca f r) (b : LkA ca g s) : LkA ca (fun x h => match f x h with | .stuck => g x h | z => z) (fun x H Q => r x H Q ∨ s x H Q) := by
  intro n μ F H h Wx x c Q R V1 hb p
  cases e : f c h with
  | stuck => simp only [e] at p; exact .inr (b n μ F H h Wx x c Q R V1 hb p)
  | ok _ _ => simp only [e] at p; exact .inl (a n μ F H h Wx x c Q R V1 hb (by rw [e]; exact p))
  | exc _ _ => simp only [e] at p; exact .inl (a n μ F H h Wx x c Q R V1 hb (by rw [e]; exact p))
/-! ### methods of built-in types -/
abbrev FM := D → List D → Nat → Own → Res R
def LkM (ca : Cn) (f : FM) (r : V → List V → Hp → VK → Prop) : Prop := ∀ (b : Nat) (μ : List Addr) (F H : Hp) (h : Own) (Wx : Nat → Hp → Prop) (x : V) (d : D) (vs : List V) (ds : List D) (Q : VK), RelH ca μ F h H → VR ca μ F x d → VRs ca μ F vs ds → b ≤ h.length →
  PostG ca b μ F H h (f d ds b h) Wx (fun r μ1 F1 H1 _ => ∀ v, RR ca μ1 F1 H H1 v r → Q v H1) → r x vs H Q
/-- the receiver's type -/
def isTy (T : String) (h : Own) : D → Bool
  | .lst _ => T == "list"
  | .str _ => T == "str"
  | .dK _ => T == "dict"
  | .ref n => match h[n]? with
    | some (.lst _) => T == "list"
    | some (.dK _) => T == "dict"
    | _ => false
  | _ => false
def eM (T : String) (f : FM) (x : ED) (xs : EA) : EX := fun τ h => (x τ h).bind fun d h1 => if isTy T h1 d = true then (xs τ h1).bind fun ds h2 => f d ds τ.b h2 else .stuck
theorem isTy_ok {K : PySem.W.Frag} {T : String} {μ : List Addr} {F H : Hp} {h : Own} {v : V} {d : D} (R : RelH ca μ F h H) (V1 : VR ca μ F v d) (e : isTy T h d = true) : tyV K T v H := by
  cases V1 with
  | lst q r => have e' : (T == "list") = true := e; exact Or.inl ⟨by simpa using e', _, SqL.of (R.fz _ _ q)⟩
  | str s => have e' : (T == "str") = true := e; exact (by simpa using e' : T = "str")
  | dK q k r => have e' : (T == "dict") = true := e; exact Or.inr (Or.inr (Or.inl ⟨by simpa using e', Or.inl ⟨_, R.fz _ _ q⟩⟩))
  | ref q =>
    rename_i a n
    unfold isTy at e
    dsimp only at e
    split at e
    · rename_i ds q2
      obtain ⟨vs, q3, r3⟩ := R.ob n _ _ q q2
      exact Or.inl ⟨by simpa using e, _, SqL.of q3⟩
    · rename_i ds q2
      obtain ⟨vs, q3, k3, r3⟩ := R.ob n _ _ q q2
      exact Or.inr (Or.inr (Or.inl ⟨by simpa using e, Or.inl ⟨_, q3⟩⟩))
    · cases e
  | _ => exact (Bool.false_ne_true e).elim
theorem se_m {T : String} {f : FM} {r : V → List V → Hp → VK → Prop} {x : ED} {xs : EA} (h : PE X e (tBM X.K T r (rdD ca W x) (rdA ca W xs))) (lk : LkM ca f r) : SE ca X W e (eM T f x xs) := PE.imp h fun σ H Q ⟨μ, F, τ, h, A, p⟩ => ⟨μ, F, τ, h, A, p.bind.imp fun d μ1 F1 H1 h1 E1 R1 q v V => by
  by_cases ht : isTy T h1 d = true
  · rw [if_pos ht] at q
    exact ⟨isTy_ok R1 V ht, μ1, F1, τ, h1, A.ext E1 R1, q.bind.imp fun ds μ2 F2 H2 h2 E2 R2 q2 vs Vs => lk τ.b μ2 F2 H2 h2 (wx ca W σ) v d vs ds Q R2 (E2.vr V) Vs ((A.ext E1 R1).ext E2 R2).bl
      (q2.imp fun r μ3 F3 H3 h3 E3 R3 q3 u V3 => q3 u (RR.back E1 (RR.back E2 V3)))⟩
  · rw [if_neg ht] at q
    exact q.elim⟩
theorem se_m0 {T : String} {f : FM} {r : V → List V → Hp → VK → Prop} {x : ED} (h : PE X e (tBM0 X.K T r (rdD ca W x))) (lk : LkM ca f r) : SE ca X W e (eM T f x aNil) := PE.imp h fun σ H Q ⟨μ, F, τ, h, A, p⟩ => ⟨μ, F, τ, h, A, p.bind.imp fun d μ1 F1 H1 h1 E1 R1 q v V => by
  by_cases ht : isTy T h1 d = true
  · rw [if_pos ht] at q
    exact ⟨isTy_ok R1 V ht, lk τ.b μ1 F1 H1 h1 (wx ca W σ) v d [] [] Q R1 V .nil (A.ext E1 R1).bl (q.imp fun r μ2 F2 H2 h2 E2 R2 q2 u V2 => q2 u (RR.back E1 V2))⟩
  · rw [if_neg ht] at q
    exact q.elim⟩
end
end Z
set_option Elab.async false
set_option linter.all false
set_option maxRecDepth 100000
set_option maxHeartbeats 1000000
/-! Z9: stores; loops. -/
namespace Z
open PySem PySem.Spec L2
section
variable {ca : Cn} {X : Cx} {W : WF} {pos : Pos} {e a b c : Expr}
/-! ### o[i] = v -/
def subO (h : Own) (n : Nat) (o : O) : Bool := match h[n]? with
  | some o0 => subR o o0
  | none => false
def putO (h : Own) (b n : Nat) (o : O) : Option Own := if b ≤ n ∨ nrfO o = true ∨ subO h n o = true then some (h.set n o) else none
def fPut (b : Nat) (o i v : D) (h : Own) : Option Own := match o with
  | .ref n => match h[n]? with
    | some (.lst ds) => match i with
      | .int k => match ixN ds.length k with
        | some j => putO h b n (.lst (ds.set j v))
        | none => none
      | _ => none
    | some (.dK kds) => match asK i with
      | some k => if kds.length < sizeLine then putO h b n (.dK (putD kds k v)) else none
      | none => none
    | some (.dT kds) => match asKs i with
      | some k => if kds.length < sizeLine then putO h b n (.dT (putD kds k v)) else none
      | none => none
    | _ => none
  | _ => none
def rSetD : TSet := fun o i v H Q => ∃ p H', o = .ref p ∧ DPut H p i v H' ∧ Q H'
theorem set_dict (hu : X.A.units + 1 < cLine) : PSet X rSetD := by
  intro pins s σ H o i v ov iv u Q I ro ri rv ⟨p, H', e, g, q⟩
  subst e
  obtain rfl : ov = Value.ref p := ro
  exact d_setItem hu I g ri rv fun s' I' => ⟨H', I', q⟩
theorem PSet.or {t t' : TSet} (h : PSet X t) (h' : PSet X t') : PSet X fun o i v H Q => t o i v H Q ∨ t' o i v H Q := by
  intro pins s σ H o i v ov iv u Q I ro ri rv q
  rcases q with q | q
  · exact h pins s σ H o i v ov iv u Q I ro ri rv q
  · exact h' pins s σ H o i v ov iv u Q I ro ri rv q
def rSetA : TSet := fun o i v H Q => rSetL o i v H Q ∨ rSetD o i v H Q
theorem set_any (hu : X.A.units + 1 < cLine) : PSet X rSetA := PSet.or set_list (set_dict hu)
theorem put_ok {μ : List Addr} {F H : Hp} {h h1 : Own} {b n : Nat} {a : Addr} {o o0 : O} {u : HO} (R : RelH ca μ F h H) (e : μ[n]? = some a) (e0 : h[n]? = some o0) (n0 : stb o0 = false) (hp : putO h b n o = some h1) (ho : ∀ H', H' a = some u → OR ca μ F H' a o) :
    RelH ca μ F h1 (upd H a u) ∧ Ext b μ F H h μ F (upd H a u) h1 := by
  unfold putO at hp
  by_cases hb : b ≤ n ∨ nrfO o = true ∨ subO h n o = true
  · rw [if_pos hb] at hp
    cases hp
    have hb' : b ≤ n ∨ nrfO o = true ∨ subR o o0 = true := by
      unfold subO at hb
      rw [e0] at hb
      exact hb
    exact ⟨R.put e e0 (by rintro rfl; cases n0) ho, Ext.refl.put R e e0 n0 hb'⟩
  · rw [if_neg hb] at hp; cases hp
theorem fPut_ok {μ : List Addr} {F H : Hp} {h h1 : Own} {b : Nat} {vo vi vv : V} {o i v : D} {Q : Hp → Prop} (R : RelH ca μ F h H) (Vo : VR ca μ F vo o) (Vi : VR ca μ F vi i) (Vv : VR ca μ F vv v) (e : fPut b o i v h = some h1)
    (q : ∀ H1, RelH ca μ F h1 H1 → Ext b μ F H h μ F H1 h1 → Q H1) : rSetA vo vi vv H Q := by
  cases Vo with
  | ref en =>
    rename_i a n
    unfold fPut at e
    dsimp only at e
    split at e
    · rename_i ds e0
      cases Vi with
      | int k =>
        dsimp only at e
        cases ej : ixN ds.length k with
        | none => rw [ej] at e; cases e
        | some j =>
          rw [ej] at e
          obtain ⟨vs, q1, r1⟩ := R.ob n _ _ en e0
          obtain ⟨R2, E2⟩ := put_ok R en e0 rfl e (u := .lst (vs.set j vv)) fun H' q => ⟨_, q, r1.set j Vv⟩
          exact .inl ⟨a, vs, k, j, rfl, rfl, q1, by rw [r1.length]; exact ej, q _ R2 E2⟩
      | _ => cases e
    · rename_i kds e0
      cases ek : asK i with
      | none => rw [ek] at e; cases e
      | some k =>
        rw [ek] at e
        dsimp only at e
        by_cases hl : kds.length < sizeLine
        · rw [if_pos hl] at e
          obtain ⟨kvs, q1, q2, q3⟩ := R.ob n _ _ en e0
          obtain ⟨w1, w2⟩ := vr_put k Vv q2 q3
          have hlen : kvs.length < sizeLine := by have := q3.length; rw [List.length_map, List.length_map] at this; omega
          obtain ⟨R2, E2⟩ := put_ok R en e0 rfl e (u := .dK (putK kvs k vv)) fun H' q => ⟨_, q, w1, w2⟩
          have ei := asK_ok Vi ek
          subst ei
          exact .inr ⟨a, _, rfl, DPut.k q1 hlen, q _ R2 E2⟩
        · rw [if_neg hl] at e; cases e
    · rename_i kds e0
      cases ek : asKs i with
      | none => rw [ek] at e; cases e
      | some k =>
        rw [ek] at e
        dsimp only at e
        by_cases hl : kds.length < sizeLine
        · rw [if_pos hl] at e
          obtain ⟨kvs, q1, q2, q3⟩ := R.ob n _ _ en e0
          obtain ⟨w1, w2⟩ := vr_put k Vv q2 q3
          have hlen : kvs.length < sizeLine := by have := q3.length; rw [List.length_map, List.length_map] at this; omega
          obtain ⟨R2, E2⟩ := put_ok R en e0 rfl e (u := .dT (putK kvs k vv)) fun H' q => ⟨_, q, w1, w2⟩
          obtain ⟨b', rfl, hb⟩ := asKs_ok R.fz Vi ek
          exact .inr ⟨a, _, rfl, DPut.t q1 hb hlen, q _ R2 E2⟩
        · rw [if_neg hl] at e; cases e
    · cases e
  | _ => cases e
/-- o[i] = e: the value first -/
def sPut (o i x : ED) : ST := sE x fun v τ h => sE o (fun d τ h => sE i (fun k τ h => match fPut τ.b d k v h with
  | some h1 => .next τ.s h1
  | none => .stuck) τ h) τ h
theorem ss_put {o i : Expr} {pos' : Pos} {xo xi x : ED} (hu : X.A.units + 1 < cLine) (ho : SD ca X W o xo) (hi : SD ca X W i xi) (hx : SD ca X W e x)
    (ha : ∀ v, assign (.Subscript o i pos') X.env v = (do
      let ov ← holding [v] (eval o X.env)
      let iv ← holding [v, ov] (eval i X.env)
      standAt pos'
      holding [v, ov, iv] (setItem ov iv v)
      release [v, ov, iv] [])) (hs : swapsWithSole [.Subscript o i pos'] e pos.line X.env = pure false) (hw : swappedStores [.Subscript o i pos'] e X.env = pure none)
    (h1 : (assignEach [.Subscript o i pos'] X.env).map (·.2) = [assign (.Subscript o i pos') X.env]) : SS ca X W (.Assign [.Subscript o i pos'] e pos) (sPut xo xi x) :=
  PS.imp (ps_asg hx (pg_sub ho hi (set_any hu) ha) hs hw h1) fun D σ H ⟨μ, F, τ, h, A, p⟩ => ⟨μ, F, τ, h, A, (sE_post A p).imp fun v μ1 F1 H1 h1 E1 R1 q vv Vv => by
    have A1 := A.ext E1 R1
    refine ⟨μ1, F1, τ, h1, A1, (sE_post A1 q).imp fun d μ2 F2 H2 h2 E2 R2 q2 vo Vo => ?_⟩
    have A2 := A1.ext E2 R2
    refine ⟨μ2, F2, τ, h2, A2, (sE_post A2 q2).imp fun k μ3 F3 H3 h3 E3 R3 q3 vi Vi => ?_⟩
    have A3 := A2.ext E3 R3
    cases ep : fPut τ.b d k v h3 with
    | none => rw [ep] at q3; exact q3.elim
    | some h4 =>
      rw [ep] at q3
      exact fPut_ok R3 (E3.vr Vo) Vi (E3.vr (E2.vr Vv)) ep fun H4 R4 E4 => q3 μ3 F3 H4 σ E4 R4 (E4.sr A3.sl)⟩
/-! ### o.f = v -/
def attD (i : Nat) (v : D) (fs : List D) : Option (List D) := if i < fs.length then some (fs.set i v) else if i = fs.length then some (fs ++ [v]) else none
theorem putF_set {f : Str} {v : V} : ∀ {fs : List (Str × V)} {i : Nat}, (fs.map (·.1)).Nodup → (fs.map (·.1))[i]? = some f → putF f v fs = fs.set i (f, v)
  | [], i, _, e => by simp at e
  | (g, x) :: fs, 0, nd, e => by
    simp only [List.map_cons, List.getElem?_cons_zero, Option.some.injEq] at e
    subst e
    simp [putF]
  | (g, x) :: fs, i + 1, nd, e => by
    simp only [List.map_cons, List.getElem?_cons_succ] at e
    rw [List.map_cons, List.nodup_cons] at nd
    have hne : g ≠ f := by rintro rfl; exact nd.1 (List.mem_of_getElem? e)
    rw [putF, if_neg hne, putF_set nd.2 e]
    rfl
theorem putF_new {f : Str} {v : V} : ∀ {fs : List (Str × V)}, f ∉ fs.map (·.1) → putF f v fs = fs ++ [(f, v)]
  | [], _ => rfl
  | (g, x) :: fs, h => by
    rw [List.map_cons, List.mem_cons, not_or] at h
    rw [putF, if_neg (Ne.symm h.1), putF_new h.2]
    rfl
theorem att_ok {μ : List Addr} {F : Hp} {ns : List Str} {f : Str} {i : Nat} {v : V} {d : D} {fs : List (Str × V)} {fds fds' : List D} (nd : ns.Nodup) (ei : ns[i]? = some f) (k : fs.map (·.1) = ns.take fds.length) (r : VRs ca μ F (fs.map (·.2)) fds) (rv : VR ca μ F v d)
    (e : attD i d fds = some fds') : (putF f v fs).map (·.1) = ns.take fds'.length ∧ VRs ca μ F ((putF f v fs).map (·.2)) fds' := by
  have hi : i < ns.length := (List.getElem?_eq_some_iff.mp ei).1
  have hl := r.length
  rw [List.length_map] at hl
  unfold attD at e
  by_cases h1 : i < fds.length
  · rw [if_pos h1] at e
    cases e
    have e1 : (fs.map (·.1))[i]? = some f := by rw [k, List.getElem?_take, if_pos h1]; exact ei
    rw [putF_set (by rw [k]; exact List.Nodup.sublist (List.take_sublist _ _) nd) e1]
    refine ⟨?_, ?_⟩
    · rw [List.length_set, List.map_set, ← k]
      have : (fs.map (·.1))[i]? = some f := e1
      obtain ⟨q1, q2⟩ := List.getElem?_eq_some_iff.mp this
      conv => lhs; rw [show f = (fs.map (·.1))[i] from q2.symm]
      exact List.set_getElem_self q1
    · rw [List.map_set]
      exact r.set i rv
  · rw [if_neg h1] at e
    by_cases h2 : i = fds.length
    · rw [if_pos h2] at e
      cases e
      subst h2
      have hnot : f ∉ fs.map (·.1) := by
        rw [k]
        intro hm
        obtain ⟨j, hj⟩ := List.getElem?_of_mem hm
        have hjl : j < fds.length := by
          have := (List.getElem?_eq_some_iff.mp hj).1
          rw [List.length_take] at this
          omega
        rw [List.getElem?_take, if_pos hjl] at hj
        obtain ⟨l1, q1⟩ := List.getElem?_eq_some_iff.mp hj
        obtain ⟨l2, q2⟩ := List.getElem?_eq_some_iff.mp ei
        have := (List.getElem_inj nd).mp (q1.trans q2.symm)
        omega
      rw [putF_new hnot]
      refine ⟨?_, ?_⟩
      · rw [List.map_append, k, List.length_append, List.length_singleton, List.take_add_one, ei]
        rfl
      · rw [List.map_append]
        exact r.append (.cons rv .nil)
    · rw [if_neg h2] at e; cases e
def fAtt (cs : List Nat) (i b : Nat) (o v : D) (h : Own) : Option Own := match o with
  | .ref n => match h[n]? with
    | some (.ins c fs) => if c ∈ cs ∧ fs.length < 1000 then (match attD i v fs with
      | some fs' => putO h b n (.ins c fs')
      | none => none) else none
    | _ => none
  | _ => none
def sAtt (cs : List Nat) (i : Nat) (o x : ED) : ST := sE x fun v τ h => sE o (fun d τ h => match fAtt cs i τ.b d v h with
  | some h1 => .next τ.s h1
  | none => .stuck) τ h
theorem ss_att {cs : List Nat} {i : Nat} {f : Str} {o : Expr} {pos' : Pos} {xo x : ED} (ho : SD ca X W o xo) (hx : SD ca X W e x) (hc : ∀ c ∈ cs, Cls X.K (ca.ad c) ∧ NoAttr X.K (ca.ad c) f ∧ (ca.nm c).Nodup ∧ (ca.nm c)[i]? = some f)
    (hs : swapsWith e (some (.Attribute o f pos')) pos.line X.env = pure false) : SS ca X W (.Assign [.Attribute o f pos'] e pos) (sAtt cs i xo x) :=
  PS.imp (ps_fld ho hx hs) fun D σ H ⟨μ, F, τ, h, A, p⟩ => ⟨μ, F, τ, h, A, (sE_post A p).imp fun v μ1 F1 H1 h1 E1 R1 q vv Vv => by
    have A1 := A.ext E1 R1
    refine ⟨μ1, F1, τ, h1, A1, (sE_post A1 q).imp fun d μ2 F2 H2 h2 E2 R2 q2 vo Vo => ?_⟩
    have A2 := A1.ext E2 R2
    cases ep : fAtt cs i τ.b d v h2 with
    | none => rw [ep] at q2; exact q2.elim
    | some h3 =>
      rw [ep] at q2
      cases Vo with
      | ref en =>
        rename_i a n
        unfold fAtt at ep
        dsimp only at ep
        split at ep
        · rename_i c fs e0
          by_cases hm : c ∈ cs ∧ fs.length < 1000
          · rw [if_pos hm] at ep
            cases ea : attD i v fs with
            | none => rw [ea] at ep; cases ep
            | some fs' =>
              rw [ea] at ep
              obtain ⟨dx, fvs, w1, w2, w3⟩ := R2.ob n _ _ en e0
              obtain ⟨k1, k2, k3, k4⟩ := hc c hm.1
              obtain ⟨z1, z2⟩ := att_ok k3 k4 w2 w3 (E2.vr Vv) ea
              obtain ⟨R3, E3⟩ := put_ok R2 en e0 rfl ep (u := .ins (ca.ad c) dx (putF f vv fvs)) fun H' q => ⟨dx, _, q, z1, z2⟩
              have hl := w3.length
              rw [List.length_map] at hl
              exact ⟨a, _, dx, fvs, rfl, w1, k1, k2, by omega, q2 μ2 F2 _ σ E3 R3 (E3.sr A2.sl)⟩
          · rw [if_neg hm] at ep; cases ep
        · cases ep
      | _ => cases ep⟩
/-! ### x op= e -/
theorem ss_aug {i : Nat} {n : Str} {op : Operator} {r : R2} {f : F2} {x : ED} {pos' : Pos} (hN : X.N.Nodup) (hi : X.N[i]? = some n) (hx' : Loc X.env.scope n) (hx : SD ca X W e x) (ho : OpR X (inplaceOp op) r) (lk : Lk2 ca f r)
    (hf : X.fn n = true ∨ X.env.scope.names.lookup n = some .local) : SS ca X W (.AugAssign (.Name n pos') op e pos) (sSet i (ed (e2 f (eVar i) x))) :=
  PS.imp (ps_aug hN hi hx' hx ho hf) fun D σ H ⟨μ, F, τ, h, A, p⟩ => by
    have q := sE_post A p
    cases ev : τ.s[i]? with
    | none => exact (show False from by simpa [sSet, sE, ed, e2, eVar, ev, PostS, PostG, Res.bind] using q).elim
    | some od =>
      cases od with
      | none => exact (show False from by simpa [sSet, sE, ed, e2, eVar, ev, PostS, PostG, Res.bind] using q).elim
      | some d0 =>
        obtain ⟨v0, e0, V0⟩ := A.sl.2 i d0 ev
        refine ⟨v0, e0, μ, F, τ, h, A, ?_⟩
        have hv : eVar i τ h = .ok d0 h := by unfold eVar; rw [ev]
        -- the operator's outcome, frozen, stored
        have q' : PostG ca τ.b μ F H h (ed (e2 f (eVar i) x) τ h) (wx ca W σ) fun d μ1 F1 H1 h1 => ∀ v, VR ca μ1 F1 v d → D.nx (σ.set i (some v)) H1 := q.imp fun d μ1 F1 H1 h1 E1 R1 w v V => w μ1 F1 H1 _ Ext.refl R1 ((E1.sr A.sl).set i V)
        have q2 : PostG ca τ.b μ F H h (e2 f (eVar i) x τ h) (wx ca W σ) fun r μ1 F1 H1 _ => ∀ v, RR ca μ1 F1 H H1 v r → D.nx (σ.set i (some v)) H1 := frz_post q'
        have q3 : PostG ca τ.b μ F H h ((x τ h).bind fun y h2 => f d0 y h2) (wx ca W σ) fun r μ1 F1 H1 _ => ∀ v, RR ca μ1 F1 H H1 v r → D.nx (σ.set i (some v)) H1 := by
          unfold e2 at q2
          rw [hv] at q2
          exact q2
        exact q3.bind.imp fun y μ1 F1 H1 h1 E1 R1 w v V => lk τ.b μ1 F1 H1 h1 (wx ca W σ) v0 v d0 y _ R1 (E1.vr V0) V (A.ext E1 R1).bl (w.imp fun r μ2 F2 H2 h2 E2 R2 w2 u V2 => w2 u (RR.back E1 V2))
end
end Z
set_option Elab.async false
set_option linter.all false
set_option maxRecDepth 100000
set_option maxHeartbeats 1000000
/-! Z10: loops, comprehensions. -/
namespace Z
open PySem PySem.Spec L2
section
variable {ca : Cn} {X : Cx} {W : WF} {pos : Pos} {e a b c : Expr}
/-! ### what is walked -/
/-- the own list that is walked stays as it is -/
abbrev Kp := Option (Nat × O)
def kpOk (kp : Kp) (h : Own) : Prop := ∀ n o, kp = some (n, o) → h[n]? = some o
def ItOk (ca : Cn) (ds : List D) (kp : Kp) (J : It) (μ : List Addr) (F H : Hp) (h : Own) : Prop := ∀ b μ2 F2 h2 H2, Ext b μ F H h μ2 F2 H2 h2 → RelH ca μ2 F2 h2 H2 → kpOk kp h2 → ∀ i,
  (i < ds.length → J.go i H2 ∧ ∀ x H3, J.yld i H2 x H3 → ∃ F3 d, ds[i]? = some d ∧ (∀ b, Ext b μ2 F2 H2 h2 μ2 F3 H3 h2) ∧ RelH ca μ2 F3 h2 H3 ∧ VR ca μ2 F3 x d) ∧ (ds.length ≤ i → J.stop i H2)
abbrev EI := Fm → Own → Res (List D × Kp)
def rdI (ca : Cn) (W : WF) (x : EI) : TI := fun σ H R => ∃ μ F τ h, At ca μ F τ h σ H ∧ PostG ca τ.b μ F H h (x τ h) (wx ca W σ) fun p μ1 F1 H1 h1 => kpOk p.2 h1 → ∀ J, ItOk ca p.1 p.2 J μ1 F1 H1 h1 → R J H1
def SI (ca : Cn) (X : Cx) (W : WF) (tg iter : Expr) (x : EI) : Prop := PI X tg iter (rdI ca W x)
theorem PI.imp {X : Cx} {tg e : Expr} {t t' : TI} (h : PI X tg e t) (i : ∀ σ H Q, t' σ H Q → t σ H Q) : PI X tg e t' := ⟨fun pins s σ H Q I q => h.run pins s σ H Q I (i σ H Q q)⟩
/-- a list's or tuple's items -/
def iSeq (x : ED) : EI := fun τ h => (x τ h).bind fun d h1 => match d with
  | .tup ds => .ok (ds, none) h1
  | .lst ds => .ok (ds, none) h1
  | .ref n => match h1[n]? with
    | some (.lst ds) => .ok (ds, some (n, .lst ds)) h1
    | _ => .stuck
  | _ => .stuck
def iSeqR (K : PySem.W.Frag) (tl : TE) : TI := fun σ H R => tl σ H fun x H1 => ∃ a, x = .ref a ∧ (((∃ xs, SqL K H1 a xs) ∧ R (Itl K a) H1) ∨ ((∃ xs, SqT K H1 a xs) ∧ R (Itt K a) H1))
open PyProof.Rows in
theorem pi_seq {tg l : Expr} {tl : TE} (hl : PE X l tl) : PI X tg l (iSeqR X.K tl) := by
  refine ⟨fun pins s σ H R I h => ?_⟩
  refine thn (hl.run pins s σ H _ I h) fun v s1 ⟨x, H1, I1, r1, q1⟩ => ?_
  obtain ⟨a, e, q⟩ := q1
  subst e
  cases r1
  rcases q with ⟨⟨xs, hq⟩, q⟩ | ⟨⟨xs, hq⟩, q⟩
  · obtain ⟨its, rv, p, hz⟩ := I1.list hq
    refine wpAny_pyIter_list p.isList ?_
    refine ⟨s1.heap.objs.size, [s1.heap.objs.size], _, _, H1, rfl, I1.kept (t' := s1.toks) fun b o e => Heap.get?_push_of_some _ e, turn_list a _, ⟨_, Heap.get?_push_size _ rfl, rfl, rfl⟩, fun b hb => ?_, q⟩
    have e : b = s1.heap.objs.size := by simpa using hb
    subst e
    exact I1.fpOk (Nat.le_refl _) (I1.hok.fresh (Nat.le_refl _))
  · obtain ⟨its, rv, p, hz⟩ := I1.tuple hq
    refine wpAny_pyIter_tuple (show s1.heap.IsTuple a its.toArray from p) ?_
    refine ⟨s1.heap.objs.size, [s1.heap.objs.size], _, _, H1, rfl, I1.kept (t' := s1.toks) fun b o e => Heap.get?_push_of_some _ e, turn_tuple a _, ⟨_, Heap.get?_push_size _ rfl, rfl, rfl⟩, fun b hb => ?_, q⟩
    have e : b = s1.heap.objs.size := by simpa using hb
    subst e
    exact I1.fpOk (Nat.le_refl _) (I1.hok.fresh (Nat.le_refl _))
theorem itl_ok {K : PySem.W.Frag} {ds : List D} {kp : Kp} {a : Addr} {μ : List Addr} {F H : Hp} {h : Own} (hh : ∀ b μ2 F2 h2 H2, Ext b μ F H h μ2 F2 H2 h2 → RelH ca μ2 F2 h2 H2 → kpOk kp h2 → ∃ vs, H2 a = some (.lst vs) ∧ VRs ca μ2 F2 vs ds) : ItOk ca ds kp (Itl K a) μ F H h := by
  intro b μ2 F2 h2 H2 E R hk i
  obtain ⟨vs, q, r⟩ := hh b μ2 F2 h2 H2 E R hk
  have hl := r.length
  refine ⟨fun hi => ⟨⟨vs, vs[i]'(by omega), SqL.of q, by rw [List.getElem?_eq_getElem]⟩, fun x H3 y => ?_⟩, fun hi => ⟨vs, SqL.of q, by omega⟩⟩
  obtain ⟨e, y⟩ := y
  subst e
  obtain ⟨d, e1, e2⟩ := r.getV (y vs (SqL.of q))
  exact ⟨F2, d, e1, fun b => Ext.refl, R, e2⟩
theorem itt_ok {K : PySem.W.Frag} {ds : List D} {kp : Kp} {a : Addr} {vs : List V} {μ : List Addr} {F H : Hp} {h : Own} (q : F a = some (.tup vs)) (r : VRs ca μ F vs ds) : ItOk ca ds kp (Itt K a) μ F H h := by
  intro b μ2 F2 h2 H2 E R hk i
  have q2 : H2 a = some (.tup vs) := R.fz _ _ (E.fz _ _ q)
  have r2 := E.vrs r
  have hl := r.length
  refine ⟨fun hi => ⟨⟨vs, vs[i]'(by omega), SqT.of q2, by rw [List.getElem?_eq_getElem]⟩, fun x H3 y => ?_⟩, fun hi => ⟨vs, SqT.of q2, by omega⟩⟩
  obtain ⟨e, y⟩ := y
  subst e
  obtain ⟨d, e1, e2⟩ := r2.getV (y vs (SqT.of q2))
  exact ⟨F2, d, e1, fun b => Ext.refl, R, e2⟩
theorem si_seq {tg : Expr} {x : ED} (hx : SD ca X W e x) : SI ca X W tg e (iSeq x) := PI.imp (pi_seq hx) fun σ H R ⟨μ, F, τ, h, A, p⟩ => ⟨μ, F, τ, h, A, p.bind.imp fun d μ1 F1 H1 h1 E1 R1 q v Vr => by
  cases Vr with
  | @tup a vs ds qt r => exact ⟨a, rfl, .inr ⟨⟨vs, SqT.of (R1.fz _ _ qt)⟩, q.ok R1 (fun n o z => by cases z) _ (itt_ok qt r)⟩⟩
  | @lst a vs ds qt r => exact ⟨a, rfl, .inl ⟨⟨vs, SqL.of (R1.fz _ _ qt)⟩, q.ok R1 (fun n o z => by cases z) _ (itl_ok fun b μ2 F2 h2 H2 E R hk => ⟨vs, R.fz _ _ (E.fz _ _ qt), E.vrs r⟩)⟩⟩
  | @ref a n en =>
    dsimp only at q
    split at q
    · rename_i ds e0
      obtain ⟨vs, q1, r1⟩ := R1.ob n _ _ en e0
      refine ⟨a, rfl, .inl ⟨⟨vs, SqL.of q1⟩, q.ok R1 (fun m o z => by cases z; exact e0) _ (itl_ok fun b μ2 F2 h2 H2 E R hk => ?_)⟩⟩
      exact R.ob n a _ (E.ix n a en) (hk n _ rfl)
    · exact q.elim
  | _ => exact (show False from q).elim⟩
/-- range(..) -/
def rngD (lo : Int) (n : Nat) : List D := (List.range n).map fun i => D.int (lo + (i : Nat))
theorem rngD_len (lo : Int) (n : Nat) : (rngD lo n).length = n := by simp [rngD]
theorem itr_ok {lo : Int} {n : Nat} {μ : List Addr} {F H : Hp} {h : Own} : ItOk ca (rngD lo n) none (Itr lo n) μ F H h := by
  intro b μ2 F2 h2 H2 E R hk i
  rw [rngD_len]
  refine ⟨fun hi => ⟨hi, fun x H3 y => ?_⟩, fun hi => hi⟩
  obtain ⟨e, y⟩ := y
  subst e y
  exact ⟨F2, .int (lo + i), by simp [rngD, hi], fun b => Ext.refl, R, .int _⟩
open Classical in
noncomputable def iR1 (xs : EA) : EI := fun τ h => (xs τ h).bind fun ds h1 => match ds with
  | [.int j] => if R62 j then .ok (rngD 0 j.toNat, none) h1 else .stuck
  | _ => .stuck
open Classical in
noncomputable def iR2 (xs : EA) : EI := fun τ h => (xs τ h).bind fun ds h1 => match ds with
  | [.int i, .int j] => if R62 i ∧ R62 j then .ok (rngD i (j - i).toNat, none) h1 else .stuck
  | _ => .stuck
theorem si_r1 {tg : Expr} {xs : EA} (h : PI X tg e (iRng1 (rdA ca W xs))) : SI ca X W tg e (iR1 xs) := PI.imp h fun σ H R ⟨μ, F, τ, h, A, p⟩ => ⟨μ, F, τ, h, A, p.bind.imp fun ds μ1 F1 H1 h1 E1 R1 q vs Vs => by
  split at q
  · rename_i j
    cases Vs with
    | cons V1 V2 =>
      cases V2
      cases V1
      by_cases hj : R62 j
      · rw [if_pos hj] at q
        exact ⟨j, rfl, (R62.of hj).1, (R62.of hj).2, q.ok R1 (fun n o z => by cases z) _ itr_ok⟩
      · rw [if_neg hj] at q; exact q.elim
  · exact q.elim⟩
theorem si_r2 {tg : Expr} {xs : EA} (h : PI X tg e (iRng2 (rdA ca W xs))) : SI ca X W tg e (iR2 xs) := PI.imp h fun σ H R ⟨μ, F, τ, h, A, p⟩ => ⟨μ, F, τ, h, A, p.bind.imp fun ds μ1 F1 H1 h1 E1 R1 q vs Vs => by
  split at q
  · rename_i i j
    cases Vs with
    | cons V1 V2 =>
      cases V2 with
      | cons V2 V3 =>
      cases V3
      cases V1
      cases V2
      by_cases hj : R62 i ∧ R62 j
      · rw [if_pos hj] at q
        exact ⟨i, j, rfl, ⟨(R62.of hj.1).1, (R62.of hj.1).2, (R62.of hj.2).1, (R62.of hj.2).2⟩, q.ok R1 (fun n o z => by cases z) _ itr_ok⟩
      · rw [if_neg hj] at q; exact q.elim
  · exact q.elim⟩
/-! ### for -/
def clr (cl : List Nat) (s : Sl) : Sl := cl.foldl (fun s i => s.set i none) s
theorem SR.clrs {μ : List Addr} {F : Hp} {σ : L2.St} : ∀ {cl : List Nat} {s : Sl}, SR ca μ F s σ → SR ca μ F (Z.clr cl s) σ
  | [], _, h => h
  | i :: cl, s, h => SR.clrs (cl := cl) (s := s.set i none) (h.clr i)
open Classical in
noncomputable def forGo (kp : Kp) (g : ET) (bd : ST) (cl : List Nat) (b : Nat) : List D → Sl → Own → SRes
  | [], s, h => if kpOk kp h then .next s h else .stuck
  | d :: ds, s, h => if kpOk kp h then
      match g d ⟨b, s⟩ h with
      | .next s1 h1 => match bd ⟨b, s1⟩ h1 with
        | .next s2 h2 => forGo kp g bd cl b ds (clr cl s2) h2
        | .cnt s2 h2 => forGo kp g bd cl b ds (clr cl s2) h2
        | .brk s2 h2 => .next (clr cl s2) h2
        | .ret r h2 => .ret r h2
        | .exc c s2 h2 => .exc c s2 h2
        | .stuck => .stuck
      | _ => .stuck
    else .stuck
noncomputable def sFor (it : EI) (g : ET) (bd : ST) (cl : List Nat) : ST := sE it fun p τ h => forGo p.2 g bd cl τ.b p.1 τ.s h
theorem ss_for {tg iter : Expr} {l : List Stmt} {it : EI} {g : ET} {bd : ST} (cl : List Nat) (hp : PassesOwn (model X.prog X.w) X.A X.env X.xe) (hc : X.calm = true) (hi : SI ca X W tg iter it) (hg : SG ca X W tg g) (hb : SSs ca X W l bd)
    (hs : ∀ x, foldedSetIterable iter X.env x = pure x) : SS ca X W (.For tg iter l [] pos) (sFor it g bd cl) :=
  PS.imp (ps_for hp hc hi hg hb hs) fun D σ H ⟨μ, F, τ, h, A, p⟩ => ⟨μ, F, τ, h, A, (sE_post A p).imp fun pr μ1 F1 H1 h1 E1 R1 q => by
    obtain ⟨ds, kp⟩ := pr
    intro hk J ok
    refine ⟨fun i m σ2 H2 => m = ds.length - i ∧ i ≤ ds.length ∧ ∃ μ2 F2 s2 h2, Ext τ.b μ1 F1 H1 h1 μ2 F2 H2 h2 ∧ At ca μ2 F2 ⟨τ.b, s2⟩ h2 σ2 H2 ∧ PostS ca W τ.b μ2 F2 H2 h2 (forGo kp g bd cl τ.b (ds.drop i) s2 h2) D,
      ⟨ds.length, rfl, Nat.zero_le _, μ1, F1, τ.s, h1, Ext.refl, A.ext E1 R1, q⟩, ?_⟩
    rintro i m σ2 H2 ⟨rfl, hi, μ2, F2, s2, h2, Eg, A2, w⟩
    have hi : i ≤ ds.length := hi
    have hk : kpOk kp h1 := hk
    have ok : ItOk ca ds kp J μ1 F1 H1 h1 := ok
    have hkp : kpOk kp h2 := by
      cases hd : ds.drop i with
      | nil =>
        rw [hd, forGo] at w
        by_cases z : kpOk kp h2
        · exact z
        · rw [if_neg z] at w; exact w.elim
      | cons d r =>
        rw [hd, forGo] at w
        by_cases z : kpOk kp h2
        · exact z
        · rw [if_neg z] at w; exact w.elim
    obtain ⟨k1, k2⟩ := ok τ.b μ2 F2 h2 H2 Eg A2.rel hkp i
    by_cases hlt : i < ds.length
    · obtain ⟨go, yl⟩ := k1 hlt
      refine .inr ⟨go, fun σ' H' => i + 1 ≤ ds.length ∧ ∃ μ2 F2 s2 h2, Ext τ.b μ1 F1 H1 h1 μ2 F2 H' h2 ∧ At ca μ2 F2 ⟨τ.b, s2⟩ h2 σ' H' ∧ PostS ca W τ.b μ2 F2 H' h2 (forGo kp g bd cl τ.b (ds.drop (i + 1)) s2 h2) D,
        fun σ' H' z => ⟨ds.length - (i + 1), by omega, rfl, z.1, z.2⟩, fun x H3 y => ?_⟩
      obtain ⟨F3, d, ed, E3, R3, V3⟩ := yl x H3 y
      have E3' := E3 τ.b
      have A3 : At ca μ2 F3 ⟨τ.b, s2⟩ h2 σ2 H3 := A2.ext E3' R3
      have hd : ds.drop i = d :: ds.drop (i + 1) := by
        rw [List.drop_eq_getElem_cons hlt]
        congr 1
        exact Option.some.inj ((List.getElem?_eq_getElem hlt).symm.trans ed)
      rw [hd, forGo, if_pos hkp] at w
      have w3 := w.step E3'
      cases hgd : g d ⟨τ.b, s2⟩ h2 with
      | next s4 h4 =>
        rw [hgd] at w3
        dsimp only at w3
        refine ⟨μ2, F3, ⟨τ.b, s2⟩, h2, d, A3, V3, s4, h4, hgd, fun μ4 F4 H4 σ4 E4 R4 S4 => ?_⟩
        have A4 : At ca μ4 F4 ⟨τ.b, s4⟩ h4 σ4 H4 := ⟨R4, S4, Nat.le_trans A3.bl (E4.len R3 R4)⟩
        have w4 := w3.step E4
        refine ⟨μ4, F4, ⟨τ.b, s4⟩, h4, A4, ?_⟩
        have again : ∀ {s5 : Sl} {h5 : Own} {μ5 : List Addr} {F5 H5 : Hp} {σ5 : L2.St}, Ext τ.b μ4 F4 H4 h4 μ5 F5 H5 h5 → RelH ca μ5 F5 h5 H5 → SR ca μ5 F5 s5 σ5 → PostS ca W τ.b μ4 F4 H4 h4 (forGo kp g bd cl τ.b (ds.drop (i + 1)) (clr cl s5) h5) D →
            i + 1 ≤ ds.length ∧ ∃ μ2 F2 s2 h2, Ext τ.b μ1 F1 H1 h1 μ2 F2 H5 h2 ∧ At ca μ2 F2 ⟨τ.b, s2⟩ h2 σ5 H5 ∧ PostS ca W τ.b μ2 F2 H5 h2 (forGo kp g bd cl τ.b (ds.drop (i + 1)) s2 h2) D :=
          fun {s5 h5 μ5 F5 H5 σ5} E5 R5 S5 w5 => ⟨hlt, μ5, F5, clr cl s5, h5, Eg.trans (E3'.trans (E4.trans E5)), ⟨R5, S5.clrs, Nat.le_trans A4.bl (E5.len R4 R5)⟩, w5.step E5⟩
        cases hbd : bd ⟨τ.b, s4⟩ h4 with
        | next s5 h5 => rw [hbd] at w4; exact fun μ5 F5 H5 σ5 E5 R5 S5 => again E5 R5 S5 w4
        | cnt s5 h5 => rw [hbd] at w4; exact fun μ5 F5 H5 σ5 E5 R5 S5 => again E5 R5 S5 w4
        | brk s5 h5 => rw [hbd] at w4; exact fun μ5 F5 H5 σ5 E5 R5 S5 => w4 μ5 F5 H5 σ5 E5 R5 S5.clrs
        | ret r h5 => rw [hbd] at w4; exact fun μ5 F5 H5 v E5 R5 V5 => w4 μ5 F5 H5 v E5 R5 V5
        | exc c s5 h5 => rw [hbd] at w4; exact fun μ5 F5 H5 σ5 E5 R5 S5 => w4 μ5 F5 H5 σ5 E5 R5 S5
        | stuck => rw [hbd] at w4; exact w4.elim
      | _ => rw [hgd] at w3; exact w3.elim
    · refine .inl ⟨k2 (by omega), ?_⟩
      rw [List.drop_eq_nil_of_le (by omega), forGo, if_pos hkp] at w
      exact w μ2 F2 H2 σ2 Ext.refl A2.rel A2.sl⟩
/-! ### while -/
def whGo (t : EB) (bd : ST) (cl : List Nat) (b : Nat) : Nat → Sl → Own → SRes
  | 0, _, _ => .stuck
  | n + 1, s, h => match t ⟨b, s⟩ h with
    | .ok true h1 => match bd ⟨b, s⟩ h1 with
      | .next s2 h2 => whGo t bd cl b n (clr cl s2) h2
      | .cnt s2 h2 => whGo t bd cl b n (clr cl s2) h2
      | .brk s2 h2 => .next (clr cl s2) h2
      | .ret r h2 => .ret r h2
      | .exc c s2 h2 => .exc c s2 h2
      | .stuck => .stuck
    | .ok false h1 => .next s h1
    | .exc c h1 => .exc c s h1
    | .stuck => .stuck
/-- how many turns are allowed -/
def wMax : Nat := 1000000000
def sWh (t : EB) (bd : ST) (cl : List Nat) : ST := fun τ h => whGo t bd cl τ.b wMax τ.s h
theorem ss_while {l : List Stmt} {t : EB} {bd : ST} (cl : List Nat) (hp : PassesOwn (model X.prog X.w) X.A X.env X.xe) (hc : SB ca X W c t) (hb : SSs ca X W l bd) : SS ca X W (.While c l [] pos) (sWh t bd cl) :=
  PS.imp (ps_while hp hc hb) fun D σ H ⟨μ, F, τ, h, A, p⟩ => by
    have p' : PostS ca W τ.b μ F H h (whGo t bd cl τ.b wMax τ.s h) D := p
    refine ⟨fun m σ2 H2 => ∃ μ2 F2 s2 h2, At ca μ2 F2 ⟨τ.b, s2⟩ h2 σ2 H2 ∧ PostS ca W τ.b μ2 F2 H2 h2 (whGo t bd cl τ.b m s2 h2) D, ⟨wMax, μ, F, τ.s, h, A, p'⟩, ?_⟩
    rintro m σ2 H2 ⟨μ2, F2, s2, h2, A2, w⟩
    cases m with
    | zero => exact w.elim
    | succ m =>
      rw [whGo] at w
      refine ⟨μ2, F2, ⟨τ.b, s2⟩, h2, A2, ?_⟩
      cases ht : t ⟨τ.b, s2⟩ h2 with
      | stuck => rw [ht] at w; exact w.elim
      | exc c h3 => rw [ht] at w; exact fun μ3 F3 H3 E3 R3 => w μ3 F3 H3 σ2 E3 R3 (E3.sr A2.sl)
      | ok k h3 =>
        rw [ht] at w
        intro μ3 F3 H3 E3 R3
        have A3 := A2.ext E3 R3
        cases k with
        | false => show D.nx σ2 H3; exact w μ3 F3 H3 σ2 E3 R3 (E3.sr A2.sl)
        | true =>
          show ∃ N : L2.St → Hp → Prop, (∀ σ' H', N σ' H' → ∃ m', m' < m + 1 ∧ ∃ μ2 F2 s2 h2, At ca μ2 F2 ⟨τ.b, s2⟩ h2 σ' H' ∧ PostS ca W τ.b μ2 F2 H' h2 (whGo t bd cl τ.b m' s2 h2) D) ∧ rdS ca W bd { D with nx := N, ct := N, bk := D.nx } σ2 H3
          dsimp only at w
          have w3 := w.step E3
          refine ⟨fun σ' H' => ∃ μ2 F2 s2 h2, At ca μ2 F2 ⟨τ.b, s2⟩ h2 σ' H' ∧ PostS ca W τ.b μ2 F2 H' h2 (whGo t bd cl τ.b m s2 h2) D, fun σ' H' z => ⟨m, Nat.lt_succ_self _, z⟩, μ3, F3, ⟨τ.b, s2⟩, h3, A3, ?_⟩
          have again : ∀ {s5 : Sl} {h5 : Own} {μ5 : List Addr} {F5 H5 : Hp} {σ5 : L2.St}, Ext τ.b μ3 F3 H3 h3 μ5 F5 H5 h5 → RelH ca μ5 F5 h5 H5 → SR ca μ5 F5 s5 σ5 → PostS ca W τ.b μ3 F3 H3 h3 (whGo t bd cl τ.b m (clr cl s5) h5) D →
              ∃ μ2 F2 s2 h2, At ca μ2 F2 ⟨τ.b, s2⟩ h2 σ5 H5 ∧ PostS ca W τ.b μ2 F2 H5 h2 (whGo t bd cl τ.b m s2 h2) D :=
            fun {s5 h5 μ5 F5 H5 σ5} E5 R5 S5 w5 => ⟨μ5, F5, clr cl s5, h5, ⟨R5, S5.clrs, Nat.le_trans A3.bl (E5.len R3 R5)⟩, w5.step E5⟩
          cases hbd : bd ⟨τ.b, s2⟩ h3 with
          | next s5 h5 => rw [hbd] at w3; exact fun μ5 F5 H5 σ5 E5 R5 S5 => again E5 R5 S5 w3
          | cnt s5 h5 => rw [hbd] at w3; exact fun μ5 F5 H5 σ5 E5 R5 S5 => again E5 R5 S5 w3
          | brk s5 h5 => rw [hbd] at w3; exact fun μ5 F5 H5 σ5 E5 R5 S5 => w3 μ5 F5 H5 σ5 E5 R5 S5.clrs
          | ret r h5 => rw [hbd] at w3; exact fun μ5 F5 H5 v E5 R5 V5 => w3 μ5 F5 H5 v E5 R5 V5
          | exc c s5 h5 => rw [hbd] at w3; exact fun μ5 F5 H5 σ5 E5 R5 S5 => w3 μ5 F5 H5 σ5 E5 R5 S5
          | stuck => rw [hbd] at w3; exact w3.elim
end
end Z
set_option Elab.async false
set_option linter.all false
set_option maxRecDepth 100000
set_option maxHeartbeats 1000000
/-! Z11: comprehensions. -/
namespace Z
open PySem PySem.Spec L2
section
variable {ca : Cn} {X : Cx} {W : WF} {pos : Pos} {e a b c : Expr}
abbrev W0 : WF := fun _ _ _ _ => False
theorem wipe_get {σ : L2.St} : ∀ (vs : List Nat) (j : Nat), (wipe σ vs)[j]? = if j ∈ vs ∧ j < σ.length then some none else σ[j]?
  | [], j => by simp [wipe]
  | v :: vs, j => by
    rw [wipe]
    by_cases hj : v = j
    · subst hj
      by_cases hl : v < σ.length
      · rw [List.getElem?_set_self (by rw [wipe_length]; exact hl), if_pos ⟨List.mem_cons_self, hl⟩]
      · rw [if_neg (fun z => hl z.2), List.getElem?_eq_none (by rw [List.length_set, wipe_length]; omega), List.getElem?_eq_none (by omega)]
    · rw [List.getElem?_set_ne hj, wipe_get vs j]
      by_cases hm : j ∈ vs
      · by_cases hl : j < σ.length
        · rw [if_pos ⟨hm, hl⟩, if_pos ⟨List.mem_cons_of_mem _ hm, hl⟩]
        · rw [if_neg (fun z => hl z.2), if_neg (fun z => hl z.2)]
      · rw [if_neg (fun z => hm z.1), if_neg (fun z => by rcases List.mem_cons.mp z.1 with q | q; exact hj q.symm; exact hm q)]
theorem wipe_set {σ : L2.St} {i : Nat} {x : Option V} {vs : List Nat} (h : i ∈ vs) : wipe (σ.set i x) vs = wipe σ vs := by
  apply List.ext_getElem?
  intro j
  rw [wipe_get, wipe_get, List.length_set]
  by_cases hj : j ∈ vs ∧ j < σ.length
  · rw [if_pos hj, if_pos hj]
  · rw [if_neg hj, if_neg hj]
    by_cases hi : i = j
    · subst hi
      have hl : ¬ i < σ.length := fun z => hj ⟨h, z⟩
      rw [List.getElem?_eq_none (by rw [List.length_set]; omega), List.getElem?_eq_none (by omega)]
    · rw [List.getElem?_set_ne hi]
theorem clr_len : ∀ (cl : List Nat) (s : Sl), (Z.clr cl s).length = s.length
  | [], s => rfl
  | i :: cl, s => by
    show (Z.clr cl (s.set i none)).length = _
    rw [clr_len cl, List.length_set]
theorem clr_get : ∀ (cl : List Nat) (s : Sl) (j : Nat) (d : D), (Z.clr cl s)[j]? = some (some d) → s[j]? = some (some d) ∧ j ∉ cl
  | [], s, j, d, h => ⟨h, by simp⟩
  | i :: cl, s, j, d, h => by
    obtain ⟨h1, h2⟩ := clr_get cl (s.set i none) j d h
    by_cases hi : i = j
    · subst hi
      by_cases hl : i < s.length
      · rw [List.getElem?_set_self hl] at h1; cases h1
      · rw [List.getElem?_eq_none (by rw [List.length_set]; omega)] at h1; cases h1
    · rw [List.getElem?_set_ne hi] at h1
      exact ⟨h1, by simp only [List.mem_cons, not_or]; exact ⟨fun z => hi z.symm, h2⟩⟩
theorem SR.wipe {μ : List Addr} {F : Hp} {s : Sl} {σ : L2.St} (h : SR ca μ F s σ) (vs : List Nat) : SR ca μ F (Z.clr vs s) (L2.wipe σ vs) := by
  refine ⟨by rw [clr_len, wipe_length]; exact h.1, fun i d q => ?_⟩
  obtain ⟨q1, q2⟩ := clr_get vs s i d q
  obtain ⟨v, e, r⟩ := h.2 i d q1
  exact ⟨v, by rw [wipe_get, if_neg (fun z => q2 z.1)]; exact e, r⟩
/-! ### a comprehension's targets -/
def rdGw (ca : Cn) (vs : List Nat) (g : ET) : TG := fun v σ H Q => ∃ μ F τ h d, At ca μ F τ h σ H ∧ VR ca μ F v d ∧ ∃ s1 h1, g d τ h = .next s1 h1 ∧ ∀ μ1 F1 H1 σ1, Ext τ.b μ F H h μ1 F1 H1 h1 → RelH ca μ1 F1 h1 H1 → SR ca μ1 F1 s1 σ1 → wipe σ1 vs = wipe σ vs → Q σ1 H1
def SGw (ca : Cn) (X : Cx) (vs : List Nat) (tg : Expr) (g : ET) : Prop := PG X tg (rdGw ca vs g)
def rdGws (ca : Cn) (vs : List Nat) (g : ETs) : TGs := fun ws σ H Q => ∃ μ F τ h ds, At ca μ F τ h σ H ∧ VRs ca μ F ws ds ∧ ∃ s1 h1, g ds τ h = .next s1 h1 ∧ ∀ μ1 F1 H1 σ1, Ext τ.b μ F H h μ1 F1 H1 h1 → RelH ca μ1 F1 h1 H1 → SR ca μ1 F1 s1 σ1 → wipe σ1 vs = wipe σ vs → Q σ1 H1
def SGws (ca : Cn) (X : Cx) (vs : List Nat) (tg : List Expr) (g : ETs) : Prop := PGs X tg (rdGws ca vs g)
variable {vs : List Nat}
theorem sgw_name {tg : Expr} {i : Nat} (h : PG X tg (gName i)) (hi : i ∈ vs) : SGw ca X vs tg (tN i) := PG.imp h fun v σ H Q ⟨μ, F, τ, h, d, A, V, s1, h1, e, p⟩ => by
  cases e
  exact p μ F H _ Ext.refl A.rel (A.sl.set i V) (wipe_set hi)
theorem sgws_nil : SGws ca X vs [] tNil := PGs.imp pgs_nil fun ws σ H Q ⟨μ, F, τ, h, ds, A, V, s1, h1, e, p⟩ => by
  cases V with
  | nil => cases e; exact ⟨rfl, p μ F H σ Ext.refl A.rel A.sl rfl⟩
  | cons _ _ => cases e
theorem sgws_cons {es : List Expr} {g : ET} {gs : ETs} (h1 : SGw ca X vs e g) (h2 : SGws ca X vs es gs) (hs : (assignEach (e :: es) X.env).map (·.2) = assign e X.env :: (assignEach es X.env).map (·.2)) : SGws ca X vs (e :: es) (tCons g gs) := PGs.imp (pgs_cons h1 h2 hs) fun ws σ H Q ⟨μ, F, τ, h, ds, A, V, s1, h1, e, p⟩ => by
  cases V with
  | nil => cases e
  | @cons v d ws ds r t =>
    unfold tCons at e
    dsimp only at e
    cases hg : g d τ h with
    | next s h2 =>
      rw [hg] at e
      exact ⟨_, _, rfl, μ, F, τ, h, d, A, r, s, h2, hg, fun μ1 F1 H1 σ1 E1 R1 S1 w1 => ⟨μ1, F1, ⟨τ.b, s⟩, h2, ds, ⟨R1, S1, Nat.le_trans A.bl (E1.len A.rel R1)⟩, E1.vrs t, s1, h1, e, fun μ2 F2 H2 σ2 E2 R2 S2 w2 => p μ2 F2 H2 σ2 (E1.trans E2) R2 S2 (w2.trans w1)⟩⟩
    | _ => rw [hg] at e; cases e
theorem sgw_tup {es : List Expr} {k n : Nat} {gs : ETs} (hc : X.calm = true) (h : SGws ca X vs es gs) (hl : LenOk gs n) (hn : (assignEach es X.env).length = n) (hst : (assignEach es X.env).findIdx? (·.1) = none) : SGw ca X vs (.Tuple es k pos) (tTup gs) :=
  PG.imp (pg_tup hc h hn hst) fun v σ H Q ⟨μ, F, τ, h, d, A, V, s1, h1, e, p⟩ => by
    cases V with
    | tup q r => exact ⟨_, _, rfl, SqT.of (A.rel.fz _ _ q), by rw [r.length]; exact hl _ _ _ _ _ e, μ, F, τ, h, _, A, r, s1, h1, e, p⟩
    | _ => cases e
/-! ### [x for .. if ..] -/
def bYes : EB := fun _ h => .ok true h
def STs (ca : Cn) (X : Cx) (l : List Expr) (t : EB) : Prop := PTs X l (rdB ca W0 t)
theorem PTs.imp {X : Cx} {e : List Expr} {t t' : TT} (h : PTs X e t) (i : ∀ σ H Q, t' σ H Q → t σ H Q) : PTs X e t' := ⟨fun pins s σ H Q I q => h.run pins s σ H Q I (i σ H Q q)⟩
theorem sts_nil : STs ca X [] bYes := PTs.imp pts_nil fun σ H Q ⟨μ, F, τ, h, A, p⟩ => p.ok A.rel
theorem sts_one {t : EB} (h : SB ca X W0 c t) : STs ca X [c] t := pts_one h
open Classical in
noncomputable def compGo (kp : Kp) (g : ET) (t : EB) (x : ED) (b : Nat) (s : Sl) : List D → Own → List D → Res R
  | [], h, acc => if kpOk kp h then .ok (.n (.lst acc)) h else .stuck
  | d :: ds, h, acc => if kpOk kp h then
      match g d ⟨b, s⟩ h with
      | .next s1 h1 => match t ⟨b, s1⟩ h1 with
        | .ok true h2 => match x ⟨b, s1⟩ h2 with
          | .ok y h3 => if acc.length < sizeLine then compGo kp g t x b s ds h3 (acc ++ [y]) else .stuck
          | _ => .stuck
        | .ok false h2 => compGo kp g t x b s ds h2 acc
        | _ => .stuck
      | _ => .stuck
    else .stuck
noncomputable def eComp (it : EI) (g : ET) (t : EB) (x : ED) (vs : List Nat) : EX := fun τ h => (it τ h).bind fun p h1 => compGo p.2 g t x τ.b (Z.clr vs τ.s) p.1 h1 []
theorem comp_rd {wi : TI} {it : EI} {g : ET} {t : EB} {x : ED} {σ : L2.St} {H : Hp} {Q : VK} (h : rdE ca W (eComp it g t x vs) σ H Q) : tLc (rdI ca W it) (rdGw ca vs g) (rdB ca W0 t) (rdD ca W0 x) vs σ H Q := by
  obtain ⟨μ, F, τ, h, A, p⟩ := h
  refine ⟨μ, F, τ, h, A, ?_⟩
  unfold eComp at p
  cases hit : it τ h with
  | stuck => rw [hit] at p; exact p
  | exc c h1 => rw [hit] at p; exact p
  | ok pr h1 =>
    rw [hit] at p
    obtain ⟨ds, kp⟩ := pr
    intro μ1 F1 H1 E1 R1 hk J ok D hD
    have hk : kpOk kp h1 := hk
    have ok : ItOk ca ds kp J μ1 F1 H1 h1 := ok
    have p : PostG ca τ.b μ F H h (compGo kp g t x τ.b (Z.clr vs τ.s) ds h1 []) (wx ca W σ) fun r μ1 F1 H1 _ => ∀ v, RR ca μ1 F1 H H1 v r → Q v H1 := p
    have hD0 : H D = none := E1.fresh hD
    have dF : F1 D = none := by
      cases q : F1 D with
      | none => rfl
      | some w => have := R1.fz _ _ q; rw [hD] at this; cases this
    have dM : D ∉ μ1 := fun z => R1.dom D z hD
    refine ⟨fun i m H2 => m = ds.length - i ∧ i ≤ ds.length ∧ ∃ μ2 F2 h2 ws acc, Ext τ.b μ F H h μ2 F2 H2 h2 ∧ Ext τ.b μ1 F1 H1 h1 μ2 F2 H2 h2 ∧ RelH ca μ2 F2 h2 H2 ∧ H2 D = some (.lst ws) ∧ VRs ca μ2 F2 ws acc ∧ D ∉ μ2 ∧ F2 D = none ∧
      PostG ca τ.b μ F H h (compGo kp g t x τ.b (Z.clr vs τ.s) (ds.drop i) h2 acc) (wx ca W σ) fun r μ1 F1 H1 _ => ∀ v, RR ca μ1 F1 H H1 v r → Q v H1,
      ⟨ds.length, rfl, Nat.zero_le _, μ1, F1, h1, [], [], E1.upd hD, Ext.refl.upd hD, R1.upd hD, upd_same, .nil, dM, dF, p⟩, ?_⟩
    rintro i m H2 ⟨rfl, hi, μ2, F2, h2, ws, acc, E2, Eg, R2, q2, V2, nM, nF, w⟩
    have hkp : kpOk kp h2 := by
      cases hd : ds.drop i with
      | nil =>
        rw [hd, compGo] at w
        by_cases z : kpOk kp h2
        · exact z
        · rw [if_neg z] at w; exact w.elim
      | cons d r =>
        rw [hd, compGo] at w
        by_cases z : kpOk kp h2
        · exact z
        · rw [if_neg z] at w; exact w.elim
    obtain ⟨k1, k2⟩ := ok τ.b μ2 F2 h2 H2 Eg R2 hkp i
    by_cases hlt : i < ds.length
    · obtain ⟨go, yl⟩ := k1 hlt
      refine .inr ⟨go, fun H' => i + 1 ≤ ds.length ∧ ∃ μ2 F2 h2 ws acc, Ext τ.b μ F H h μ2 F2 H' h2 ∧ Ext τ.b μ1 F1 H1 h1 μ2 F2 H' h2 ∧ RelH ca μ2 F2 h2 H' ∧ H' D = some (.lst ws) ∧ VRs ca μ2 F2 ws acc ∧ D ∉ μ2 ∧ F2 D = none ∧
          PostG ca τ.b μ F H h (compGo kp g t x τ.b (Z.clr vs τ.s) (ds.drop (i + 1)) h2 acc) (wx ca W σ) fun r μ1 F1 H1 _ => ∀ v, RR ca μ1 F1 H H1 v r → Q v H1,
        fun H' z => ⟨ds.length - (i + 1), by omega, rfl, z.1, z.2⟩, fun y H3 yy => ?_⟩
      obtain ⟨F3, d, ed, E3, R3, V3⟩ := yl y H3 yy
      have E3' := E3 τ.b
      -- what stays of the new list through a step
      have stay : ∀ {μ4 : List Addr} {F4 H4 : Hp} {h4 : Own}, Ext τ.b μ2 F2 H2 h2 μ4 F4 H4 h4 → H4 D = some (.lst ws) ∧ D ∉ μ4 ∧ F4 D = none := fun {μ4 F4 H4 h4} E => by
        refine ⟨E.frame D _ q2 nM, fun z => ?_, ?_⟩
        · obtain ⟨m, e1, e2⟩ := E.pre
          rw [e1] at z
          rcases List.mem_append.mp z with z | z
          · exact nM z
          · rw [e2 D z] at q2; cases q2
        · cases q : F4 D with
          | none => rfl
          | some u =>
            rcases E.newF D (by rw [q]; simp) with z | z | z | ⟨_, z⟩ | ⟨_, z⟩
            · exact absurd nF z
            · exact absurd z nM
            · rw [z] at q2; cases q2
            · rw [z] at q2; cases q2
            · rw [z] at q2; unfold LamX.CodeO at q2; cases q2
      have hd : ds.drop i = d :: ds.drop (i + 1) := by
        rw [List.drop_eq_getElem_cons hlt]
        congr 1
        exact Option.some.inj ((List.getElem?_eq_getElem hlt).symm.trans ed)
      rw [hd, compGo, if_pos hkp] at w
      have hbl : τ.b ≤ h2.length := Nat.le_trans A.bl (E2.len A.rel R2)
      have S3 : SR ca μ2 F3 (Z.clr vs τ.s) (L2.wipe σ vs) := SR.wipe (E3'.sr (E2.sr A.sl)) vs
      cases hgd : g d ⟨τ.b, Z.clr vs τ.s⟩ h2 with
      | next s4 h4 =>
        rw [hgd] at w
        dsimp only at w
        refine ⟨μ2, F3, ⟨τ.b, Z.clr vs τ.s⟩, h2, d, ⟨R3, S3, hbl⟩, V3, s4, h4, hgd, fun μ4 F4 H4 σ4 E4 R4 S4 w4 => ⟨?_, ?_⟩⟩
        · rw [w4]
          apply List.ext_getElem?
          intro j
          rw [wipe_get, wipe_get, wipe_length]
          by_cases hj : j ∈ vs ∧ j < σ.length
          · rw [if_pos hj, if_pos hj]
          · rw [if_neg hj, if_neg hj]
        · have bl4 : τ.b ≤ h4.length := Nat.le_trans hbl (E4.len R3 R4)
          refine ⟨μ4, F4, ⟨τ.b, s4⟩, h4, ⟨R4, S4, bl4⟩, ?_⟩
          cases ht : t ⟨τ.b, s4⟩ h4 with
          | stuck => rw [ht] at w; exact w.elim
          | exc c h5 => rw [ht] at w; exact w.elim
          | ok k h5 =>
            rw [ht] at w
            intro μ5 F5 H5 E5 R5
            have bl5 : τ.b ≤ h5.length := Nat.le_trans bl4 (E5.len R4 R5)
            cases k with
            | false =>
              dsimp only at w
              obtain ⟨z1, z2, z3⟩ := stay (E3'.trans (E4.trans E5))
              exact ⟨hlt, μ5, F5, h5, ws, acc, E2.trans (E3'.trans (E4.trans E5)), Eg.trans (E3'.trans (E4.trans E5)), R5, z1, (E3'.trans (E4.trans E5)).vrs V2, z2, z3, w⟩
            | true =>
              dsimp only at w
              show rdD ca W0 x σ4 H5 _
              refine ⟨μ5, F5, ⟨τ.b, s4⟩, h5, ⟨R5, E5.sr S4, bl5⟩, ?_⟩
              cases hx : x ⟨τ.b, s4⟩ h5 with
              | stuck => rw [hx] at w; exact w.elim
              | exc c h6 => rw [hx] at w; exact w.elim
              | ok y6 h6 =>
                rw [hx] at w
                dsimp only at w
                by_cases hl : acc.length < sizeLine
                · rw [if_pos hl] at w
                  intro μ6 F6 H6 E6 R6 v6 V6
                  have Ea := E3'.trans (E4.trans (E5.trans E6))
                  obtain ⟨z1, z2, z3⟩ := stay Ea
                  exact ⟨ws, z1, by rw [V2.length]; exact hl, hlt, μ6, F6, h6, ws ++ [v6], acc ++ [y6], (E2.trans Ea).updFree hD0, (Eg.trans Ea).updFree hD, R6.updFree z2 z3, upd_same, (Ea.vrs V2).append (.cons V6 .nil), z2, z3, w⟩
                · rw [if_neg hl] at w; exact w.elim
      | _ => rw [hgd] at w; exact w.elim
    · refine .inl ⟨k2 (by omega), ?_⟩
      rw [List.drop_eq_nil_of_le (by omega), compGo, if_pos hkp] at w
      exact w μ2 F2 H2 E2 R2 (.ref D) ⟨D, rfl, hD0, by rw [q2]; simp, nM, nF, ws, q2, V2⟩
theorem se_lc {elt tg iter : Expr} {ifs : List Expr} {scope : Scope} {own : List (Str × Nat)} {it : EI} {g : ET} {t : EB} {x : ED} (hc : X.calm = true) (hN : X.N.Nodup) (hi : SI ca X W tg iter it) (ok : BlkOk X.N X.env.scope scope own)
    (hg : ∀ (s : Shared) (H : Hp) (C : Addr) (cl : List (Str × Addr)) (fp : List Addr), SGw ca (X.blk s H scope (compEnvC scope cl C X.env) fp) (own.map (·.2)) tg g) (ht : ∀ (s : Shared) (H : Hp) (C : Addr) (cl : List (Str × Addr)) (fp : List Addr), STs ca (X.blk s H scope (compEnvC scope cl C X.env) fp) ifs t)
    (he : ∀ (s : Shared) (H : Hp) (C : Addr) (cl : List (Str × Addr)) (fp : List Addr), SD ca (X.blk s H scope (compEnvC scope cl C X.env) fp) W0 elt x) (hs : ∀ x, foldedSetIterable iter X.env x = pure x) :
    SE ca X W (.ListComp elt [⟨tg, iter, ifs, 0⟩] scope pos) (eComp it g t x (own.map (·.2))) := PE.imp (pe_lc hc hN hi ok hg ht he hs) fun σ H Q h => comp_rd (wi := rdI ca W it) h
end
end Z
set_option Elab.async false
set_option linter.all false
set_option maxRecDepth 100000
set_option maxHeartbeats 1000000
/-! Z12: comprehensions stored, dicts made and walked, instances made. -/
namespace Z
open PySem PySem.Spec L2
section
variable {ca : Cn} {X : Cx} {W : WF} {pos : Pos} {e a b c : Expr}
theorem al_post {μ : List Addr} {F H : Hp} {h : Own} {Wx : Nat → Hp → Prop} {r : Res R} {Q : VK} {b : Nat} (R0 : RelH ca μ F h H) (hb : b ≤ h.length)
    (p : PostG ca b μ F H h (r.bind fun r h1 => match r with | .v d => .ok d h1 | .n o => .ok (.ref h1.length) (h1 ++ [o])) Wx fun d μ1 F1 H1 _ => ∀ v, VR ca μ1 F1 v d → Q v H1) :
    PostG ca b μ F H h r Wx fun r μ1 F1 H1 _ => ∀ v, RR ca μ1 F1 H H1 v r → Q v H1 := by
  cases r with
  | stuck => exact p
  | exc c h1 => exact p
  | ok r h1 =>
    intro μ1 F1 H1 E1 R1 v V
    cases r with
    | v d => exact p μ1 F1 H1 E1 R1 v V
    | n o =>
      obtain ⟨a, rfl, h0, hd, hm, hF, ho⟩ := V
      have p' : PostG ca b μ F H h (.ok (.ref h1.length) (h1 ++ [o])) Wx fun d μ1 F1 H1 _ => ∀ v, VR ca μ1 F1 v d → Q v H1 := p
      refine p' _ _ _ (E1.alloc h0 (Nat.le_trans hb (E1.len R0 R1))) (R1.alloc hd hm hF ho) _ (.ref ?_)
      rw [← R1.len]
      simp
theorem set_post {i : Nat} {x : ED} {μ : List Addr} {F H : Hp} {h : Own} {τ : Fm} {σ : L2.St} {D : Ends} (A : At ca μ F τ h σ H) (p : PostS ca W τ.b μ F H h (sSet i x τ h) D) :
    PostG ca τ.b μ F H h (x τ h) (wx ca W σ) fun d μ1 F1 H1 _ => ∀ v, VR ca μ1 F1 v d → D.nx (σ.set i (some v)) H1 :=
  (sE_post A p).imp fun d μ1 F1 H1 h1 E1 R1 w v V => w μ1 F1 H1 _ Ext.refl R1 ((E1.sr A.sl).set i V)
section
variable {i : Nat} {y : Str} {py : Pos} {elt tg iter : Expr} {ifs : List Expr} {scope : Scope} {own : List (Str × Nat)} {spos : Pos} {it : EI} {g : ET} {t : EB} {x : ED}
/-- name = [..], frozen or an own list -/
theorem ss_setLc (hc : X.calm = true) (hN : X.N.Nodup) (hy : X.N[i]? = some y) (hyl : X.env.scope.names.lookup y = some .local)
    (hsw : swapsWith (.ListComp elt [⟨tg, iter, ifs, 0⟩] scope pos) (some (.Name y py)) spos.line X.env = pure true) (hi : SI ca X W tg iter it) (ok : BlkOk X.N X.env.scope scope own)
    (hg : ∀ (s : Shared) (H : Hp) (C : Addr) (cl : List (Str × Addr)) (fp : List Addr), SGw ca (X.blk s H scope (compEnvC scope cl C X.env) fp) (own.map (·.2)) tg g) (ht : ∀ (s : Shared) (H : Hp) (C : Addr) (cl : List (Str × Addr)) (fp : List Addr), STs ca (X.blk s H scope (compEnvC scope cl C X.env) fp) ifs t)
    (he : ∀ (s : Shared) (H : Hp) (C : Addr) (cl : List (Str × Addr)) (fp : List Addr), SD ca (X.blk s H scope (compEnvC scope cl C X.env) fp) W0 elt x) (hs : ∀ x, foldedSetIterable iter X.env x = pure x) :
    SS ca X W (.Assign [.Name y py] (.ListComp elt [⟨tg, iter, ifs, 0⟩] scope pos) spos) (sSet i (ed (eComp it g t x (own.map (·.2))))) :=
  PS.imp (ps_setLc hc hN hy hyl hsw hi ok hg ht he hs) fun D σ H ⟨μ, F, τ, h, A, p⟩ => comp_rd (W := W) (wi := rdI ca W it) ⟨μ, F, τ, h, A, frz_post (set_post A p)⟩
theorem ss_newLc (hc : X.calm = true) (hN : X.N.Nodup) (hy : X.N[i]? = some y) (hyl : X.env.scope.names.lookup y = some .local)
    (hsw : swapsWith (.ListComp elt [⟨tg, iter, ifs, 0⟩] scope pos) (some (.Name y py)) spos.line X.env = pure true) (hi : SI ca X W tg iter it) (ok : BlkOk X.N X.env.scope scope own)
    (hg : ∀ (s : Shared) (H : Hp) (C : Addr) (cl : List (Str × Addr)) (fp : List Addr), SGw ca (X.blk s H scope (compEnvC scope cl C X.env) fp) (own.map (·.2)) tg g) (ht : ∀ (s : Shared) (H : Hp) (C : Addr) (cl : List (Str × Addr)) (fp : List Addr), STs ca (X.blk s H scope (compEnvC scope cl C X.env) fp) ifs t)
    (he : ∀ (s : Shared) (H : Hp) (C : Addr) (cl : List (Str × Addr)) (fp : List Addr), SD ca (X.blk s H scope (compEnvC scope cl C X.env) fp) W0 elt x) (hs : ∀ x, foldedSetIterable iter X.env x = pure x) :
    SS ca X W (.Assign [.Name y py] (.ListComp elt [⟨tg, iter, ifs, 0⟩] scope pos) spos) (sSet i (eAl (eComp it g t x (own.map (·.2))))) :=
  PS.imp (ps_setLc hc hN hy hyl hsw hi ok hg ht he hs) fun D σ H ⟨μ, F, τ, h, A, p⟩ => comp_rd (W := W) (wi := rdI ca W it) ⟨μ, F, τ, h, A, al_post A.rel A.bl (set_post A p)⟩
end
/-! ### dicts -/
def eNewK : EX := fun _ h => .ok (.n (.dK [])) h
def eNewT : EX := fun _ h => .ok (.n (.dT [])) h
theorem se_newK : SE ca X W (.Dict [] [] pos) eNewK := PE.imp pe_dnewK fun σ H Q ⟨μ, F, τ, h, A, p⟩ l hl => by
  obtain ⟨e, R1, w⟩ := neNew (b := τ.b) A.rel hl (.dK []) (o := .dK []) fun H' q => ⟨[], q, rfl, .nil⟩
  exact p _ _ _ e R1 _ w
theorem se_newT : SE ca X W (.Dict [] [] pos) eNewT := PE.imp pe_dnewT fun σ H Q ⟨μ, F, τ, h, A, p⟩ l hl => by
  obtain ⟨e, R1, w⟩ := neNew (b := τ.b) A.rel hl (.dT []) (o := .dT []) fun H' q => ⟨[], q, rfl, .nil⟩
  exact p _ _ _ e R1 _ w
/-- {k: v, ..} with keys that are ints or texts -/
abbrev EPs := Fm → Own → Res (List (Key × D))
def pNil : EPs := fun _ h => .ok [] h
def pCons (k v : ED) (r : EPs) : EPs := fun τ h => (k τ h).bind fun kd h1 => (v τ h1).bind fun d h2 => (r τ h2).bind fun ps h3 => match asK kd with
  | some kk => .ok ((kk, d) :: ps) h3
  | none => .stuck
def mergeD (kds more : List (Key × D)) : List (Key × D) := more.foldl (fun acc p => putD acc p.1 p.2) kds
def eDisp (ps : EPs) : EX := fun τ h => (ps τ h).bind fun kds h1 => if kds.length ≤ 15 then .ok (.n (.dK (mergeD [] kds))) h1 else .stuck
/-- the pairs of a display are evaluated -/
def PPd (ca : Cn) (W : WF) (trs : List (TE × TE)) (ps : EPs) : Prop := ∀ (b : Nat) (μ : List Addr) (F : Hp) (τ : Fm) (h : Own) (σ : L2.St) (H : Hp) (Q : List (V × V) → Hp → Prop), At ca μ F τ h σ H →
  PostG ca τ.b μ F H h (ps τ h) (wx ca W σ) (fun kds μ1 F1 H1 _ => ∀ kvs : List (Key × V), kvs.map (·.1) = kds.map (·.1) → VRs ca μ1 F1 (kvs.map (·.2)) (kds.map (·.2)) → Q (kvs.map fun kv => (kV kv.1, kv.2)) H1) → tPairs trs σ H Q
theorem pp_nil : PPd ca W [] pNil := fun b μ F τ h σ H Q A p => p.ok A.rel [] rfl .nil
theorem pp_cons {k v : ED} {r : EPs} {trs : List (TE × TE)} (hr : PPd ca W trs r) : PPd ca W ((rdD ca W k, rdD ca W v) :: trs) (pCons k v r) := fun b μ F τ h σ H Q A p => by
  refine ⟨μ, F, τ, h, A, p.bind.imp fun kd μ1 F1 H1 h1 E1 R1 q kv Vk => ?_⟩
  have A1 := A.ext E1 R1
  refine ⟨μ1, F1, τ, h1, A1, q.bind.imp fun d μ2 F2 H2 h2 E2 R2 q2 dv Vd => ?_⟩
  have A2 := A1.ext E2 R2
  refine hr b μ2 F2 τ h2 σ H2 _ A2 (q2.bind.imp fun ps μ3 F3 H3 h3 E3 R3 q3 kvs e r => ?_)
  cases ek : asK kd with
  | none => rw [ek] at q3; exact q3.elim
  | some kk =>
    rw [ek] at q3
    have := asK_ok Vk ek
    subst this
    exact q3.ok R3 ((kk, dv) :: kvs) (by simp [e]) (.cons (E3.vr Vd) r)
theorem merge_ok {μ : List Addr} {F : Hp} : ∀ {more : List (Key × V)} {moreD : List (Key × D)} {kvs : List (Key × V)} {kds : List (Key × D)}, more.map (·.1) = moreD.map (·.1) → VRs ca μ F (more.map (·.2)) (moreD.map (·.2)) → kvs.map (·.1) = kds.map (·.1) → VRs ca μ F (kvs.map (·.2)) (kds.map (·.2)) →
    (mergeK kvs more).map (·.1) = (mergeD kds moreD).map (·.1) ∧ VRs ca μ F ((mergeK kvs more).map (·.2)) ((mergeD kds moreD).map (·.2))
  | [], [], _, _, _, _, e, r => ⟨e, r⟩
  | [], _ :: _, _, _, h, _, _, _ => by cases h
  | _ :: _, [], _, _, h, _, _, _ => by cases h
  | (k, v) :: more, (k', d) :: moreD, kvs, kds, h, hr, e, r => by
    simp only [List.map_cons, List.cons.injEq] at h
    obtain ⟨h1, h2⟩ := h
    subst h1
    cases hr with
    | cons r1 r2 =>
      obtain ⟨w1, w2⟩ := vr_put k r1 e r
      exact merge_ok (more := more) (moreD := moreD) h2 r2 w1 w2
theorem se_disp {trs : List (TE × TE)} {keys : List (Option Expr)} {values : List Expr} {ps : EPs} (h : PE X (.Dict keys values pos) (tDisp trs)) (hp : PPd ca W trs ps) : SE ca X W (.Dict keys values pos) (eDisp ps) := PE.imp h fun σ H Q ⟨μ, F, τ, h, A, p⟩ l hl => by
  have hF : F l = none := by
    cases q : F l with
    | none => rfl
    | some w => have := A.rel.fz _ _ q; rw [hl] at this; cases this
  have hm : l ∉ μ := fun z => A.rel.dom l z hl
  have A1 : At ca μ F τ h σ (upd H l (.dK [])) := ⟨A.rel.upd hl, A.sl, A.bl⟩
  refine hp 0 μ F τ h σ _ _ A1 ?_
  have E0 : Ext τ.b μ F H h μ F (upd H l (.dK [])) h := Ext.refl.upd hl
  have p' : PostG ca τ.b μ F (upd H l (.dK [])) h (eDisp ps τ h) (wx ca W σ) fun r μ1 F1 H1 _ => ∀ v, RR ca μ1 F1 H H1 v r → Q v H1 := by
    cases hr : eDisp ps τ h with
    | stuck => rw [hr] at p; exact p.elim
    | exc c h1 => rw [hr] at p; exact fun μ1 F1 H1 E1 R1 => p μ1 F1 H1 (E0.trans E1) R1
    | ok r h1 => rw [hr] at p; exact fun μ1 F1 H1 E1 R1 => p μ1 F1 H1 (E0.trans E1) R1
  -- the display's own dict stays as it is while its pairs are evaluated
  cases hps : ps τ h with
  | stuck => unfold eDisp at p'; rw [hps] at p'; exact p'.elim
  | exc c h1 => unfold eDisp at p'; rw [hps] at p'; exact p'
  | ok kds h1 =>
    intro μ1 F1 H1 E1 R1 kvs ek ev
    unfold eDisp at p
    rw [hps] at p
    have p2 : PostG ca τ.b μ F H h (if kds.length ≤ 15 then .ok (.n (.dK (mergeD [] kds))) h1 else .stuck) (wx ca W σ) fun r μ1 F1 H1 _ => ∀ v, RR ca μ1 F1 H H1 v r → Q v H1 := p
    have hlD : H1 l = some (.dK []) := E1.frame l _ upd_same hm
    have hm1 : l ∉ μ1 := fun z => by
      obtain ⟨m, e1, e2⟩ := E1.pre
      rw [e1] at z
      rcases List.mem_append.mp z with z | z
      · exact hm z
      · have := e2 l z; rw [upd_same] at this; cases this
    have hF1 : F1 l = none := by
      cases q : F1 l with
      | none => rfl
      | some w =>
        rcases E1.newF l (by rw [q]; simp) with z | z | z | ⟨_, z⟩ | ⟨_, z⟩
        · exact absurd hF z
        · exact absurd z hm
        · rw [upd_same] at z; cases z
        · rw [upd_same] at z; cases z
        · rw [upd_same] at z; unfold LamX.CodeO at z; cases z
    by_cases hC : kds.length ≤ 15
    · rw [if_pos hC] at p2
      have hlen : kvs.length = kds.length := by have := congrArg List.length ek; simpa using this
      obtain ⟨w1, w2⟩ := merge_ok (kvs := []) (kds := []) ek ev rfl .nil
      refine ⟨hlD, kvs, rfl, by omega, ?_⟩
      exact p2 μ1 F1 _ ((E0.trans E1).updFree hl) (R1.updFree hm1 hF1) _ ⟨l, rfl, hl, by rw [upd_same]; simp, hm1, hF1, _, upd_same, w1, w2⟩
    · rw [if_neg hC] at p2; exact p2.elim
/-! ### an own dict walked: read, not written -/
/-- the dict at the name in slot i locked -/
def lockO : O → Option O
  | .dK k => some (.lkK k)
  | .dT k => some (.lkT k)
  | _ => none
def lkAt (τ : Fm) (i : Nat) (h : Own) : Option (Nat × O × Own) := match τ.s[i]? with
  | some (some (.ref n)) => match h[n]? with
    | some o => match lockO o with
      | some o' => if τ.b ≤ n ∨ nrfO o = true then some (n, o, h.set n o') else none
      | none => none
    | none => none
  | _ => none
theorem lock_nrf {o o' : O} (e : lockO o = some o') : nrfO o' = nrfO o := by cases o <;> cases e <;> rfl
theorem lock_stb {o o' : O} (e : lockO o = some o') : stb o = false ∧ stb o' = true ∧ o ≠ .dead ∧ o' ≠ .dead := by cases o <;> cases e <;> (refine ⟨rfl, rfl, ?_, ?_⟩ <;> intro z <;> cases z)
theorem lock_or {μ : List Addr} {F H : Hp} {a : Addr} {o o' : O} (e : lockO o = some o') (h : OR ca μ F H a o) : ∃ u, H a = some u ∧ Mut (some u) ∧ ∀ od H', H' a = some (.frz od u) → OR ca μ F H' a o' := by
  cases o with
  | dK k => cases e; obtain ⟨kvs, q1, q2, q3⟩ := h; exact ⟨_, q1, True.intro, fun od H' q => ⟨od, kvs, q, q2, q3⟩⟩
  | dT k => cases e; obtain ⟨kvs, q1, q2, q3⟩ := h; exact ⟨_, q1, True.intro, fun od H' q => ⟨od, kvs, q, q2, q3⟩⟩
  | _ => cases e
theorem unlock_or {μ : List Addr} {F H : Hp} {a : Addr} {o o' : O} {u : HO} {od : Obj} (e : lockO o = some o') (h : OR ca μ F H a o') (hu : H a = some (.frz od u)) : ∀ H', H' a = some u → OR ca μ F H' a o := by
  cases o with
  | dK k => cases e; obtain ⟨od', kvs, q1, q2, q3⟩ := h; rw [hu] at q1; cases q1; exact fun H' q => ⟨kvs, q, q2, q3⟩
  | dT k => cases e; obtain ⟨od', kvs, q1, q2, q3⟩ := h; rw [hu] at q1; cases q1; exact fun H' q => ⟨kvs, q, q2, q3⟩
  | _ => cases e
/-- what is known of a lock -/
theorem lkAt_ok {μ : List Addr} {F H : Hp} {h hl : Own} {τ : Fm} {σ : L2.St} {i n : Nat} {o : O} (A : At ca μ F τ h σ H) (e : lkAt τ i h = some (n, o, hl)) :
    ∃ a o' u, μ[n]? = some a ∧ h[n]? = some o ∧ lockO o = some o' ∧ hl = h.set n o' ∧ (τ.b ≤ n ∨ nrfO o = true) ∧ H a = some u ∧ Mut (some u) ∧ ∀ od, At ca μ F τ hl σ (upd H a (.frz od u)) ∧ Ext τ.b μ F H h μ F (upd H a (.frz od u)) hl := by
  unfold lkAt at e
  cases es : τ.s[i]? with
  | none => rw [es] at e; cases e
  | some od =>
    rw [es] at e
    cases od with
    | none => cases e
    | some d =>
      cases d with
      | ref m =>
        dsimp only at e
        cases e0 : h[m]? with
        | none => rw [e0] at e; cases e
        | some o0 =>
          rw [e0] at e
          dsimp only at e
          cases el : lockO o0 with
          | none => rw [el] at e; cases e
          | some o' =>
            rw [el] at e
            dsimp only at e
            by_cases hb : τ.b ≤ m ∨ nrfO o0 = true
            · rw [if_pos hb] at e
              cases e
              obtain ⟨v, ev, V⟩ := A.sl.2 i _ es
              cases V with
              | ref en =>
                rename_i a
                obtain ⟨s1, s2, s3, s4⟩ := lock_stb el
                obtain ⟨u, hu, mu, ho⟩ := lock_or el (A.rel.ob n a o en e0)
                refine ⟨a, o', u, en, e0, el, rfl, hb, hu, mu, fun od => ?_⟩
                have R1 : RelH ca μ F (h.set n o') (upd H a (.frz od u)) := A.rel.put en e0 s3 fun H' q => ho od H' q
                have E1 : Ext τ.b μ F H h μ F (upd H a (.frz od u)) (h.set n o') := Ext.refl.put A.rel en e0 s1 (hb.imp id fun z => .inl (by rw [lock_nrf el]; exact z))
                exact ⟨A.ext E1 R1, E1⟩
            · rw [if_neg hb] at e; cases e
      | _ => cases e
/-- unlocked again -/
theorem unlk_ok {b : Nat} {μ μ1 : List Addr} {F F1 H H1 : Hp} {h h1 : Own} {a : Addr} {n : Nat} {o o' : O} {u : HO} {od : Obj} (R : RelH ca μ F h H) (en : μ[n]? = some a) (e0 : h[n]? = some o) (el : lockO o = some o') (hb : b ≤ n ∨ nrfO o = true)
    (E0 : Ext b μ F H h μ F (upd H a (.frz od u)) (h.set n o')) (E1 : Ext b μ F (upd H a (.frz od u)) (h.set n o') μ1 F1 H1 h1) (R1 : RelH ca μ1 F1 h1 H1) :
    H1 a = some (.frz od u) ∧ h1[n]? = some o' ∧ RelH ca μ1 F1 (h1.set n o) (upd H1 a u) ∧ Ext b μ F H h μ1 F1 (upd H1 a u) (h1.set n o) := by
  obtain ⟨s1, s2, s3, s4⟩ := lock_stb el
  have hn : n < h.length := (List.getElem?_eq_some_iff.mp e0).1
  obtain ⟨w1, w2⟩ := E1.st n a o' en (by rw [List.getElem?_set_self hn]) s2
  have hu := w2 _ upd_same
  have en1 := E1.ix n a en
  refine ⟨hu, w1, R1.put en1 w1 s4 (unlock_or el (R1.ob n a o' en1 w1) hu), (E0.trans E1).put' R1 en1 (fun o2 q1 q2 => ?_) hb⟩
  rw [e0] at q1; cases q1
  rw [s1] at q2; cases q2
/-- a statement while the dict in slot i is locked -/
def sLk (i : Nat) (x : ST) : ST := fun τ h => match lkAt τ i h with
  | some (n, o, hl) => match x τ hl with
    | .next s h1 => .next s (h1.set n o)
    | .brk s h1 => .brk s (h1.set n o)
    | .cnt s h1 => .cnt s (h1.set n o)
    | .ret r h1 => .ret r (h1.set n o)
    | .exc _ _ _ => .stuck
    | .stuck => .stuck
  | none => .stuck
theorem ss_lk {st : Stmt} {x : ST} (i : Nat) (hx : SS ca X W0 st x) (hn : PS X st (tLock (rdS ca W0 x))) : SS ca X W st (sLk i x) := PS.imp hn fun D σ H ⟨μ, F, τ, h, A, p⟩ => by
  unfold sLk at p
  cases hl : lkAt τ i h with
  | none => rw [hl] at p; exact p.elim
  | some q =>
    obtain ⟨n, o, hl'⟩ := q
    rw [hl] at p
    dsimp only at p
    obtain ⟨a, o', u, en, e0, el, rfl, hb, hu, mu, hod⟩ := lkAt_ok A hl
    refine ⟨a, u, hu, mu, fun od => ?_⟩
    obtain ⟨A1, E0⟩ := hod od
    refine ⟨μ, F, τ, _, A1, ?_⟩
    cases hx : x τ (h.set n o') with
    | stuck => rw [hx] at p; exact p.elim
    | exc c s h1 => rw [hx] at p; exact p.elim
    | next s h1 =>
      rw [hx] at p
      intro μ1 F1 H1 σ1 E1 R1 S1
      obtain ⟨w1, w2, w3, w4⟩ := unlk_ok A.rel en e0 el hb E0 E1 R1
      exact ⟨w1, p μ1 F1 _ σ1 w4 w3 S1⟩
    | brk s h1 =>
      rw [hx] at p
      intro μ1 F1 H1 σ1 E1 R1 S1
      obtain ⟨w1, w2, w3, w4⟩ := unlk_ok A.rel en e0 el hb E0 E1 R1
      exact ⟨w1, p μ1 F1 _ σ1 w4 w3 S1⟩
    | cnt s h1 =>
      rw [hx] at p
      intro μ1 F1 H1 σ1 E1 R1 S1
      obtain ⟨w1, w2, w3, w4⟩ := unlk_ok A.rel en e0 el hb E0 E1 R1
      exact ⟨w1, p μ1 F1 _ σ1 w4 w3 S1⟩
    | ret r h1 =>
      rw [hx] at p
      intro μ1 F1 H1 v E1 R1 V1
      obtain ⟨w1, w2, w3, w4⟩ := unlk_ok A.rel en e0 el hb E0 E1 R1
      refine ⟨w1, p μ1 F1 _ v w4 w3 ?_⟩
      cases r with
      | v d => exact V1
      | n od2 =>
        obtain ⟨a2, k1, k2, k3, k4, k5, k6⟩ := V1
        have hne : a2 ≠ a := by rintro rfl; exact k4 (E1.pre.elim fun m z => by rw [z.1]; exact List.mem_append_left _ (List.mem_of_getElem? en))
        rw [upd_ne hne] at k2
        exact ⟨a2, k1, k2, by rw [upd_ne hne]; exact k3, k4, k5, k6.mono (fun _ _ z => z) (Same.refl _) fun w z => by rw [upd_ne hne]; exact z⟩
/-- an expression while the dict in slot i is locked -/
def eLk (i : Nat) (x : EX) : EX := fun τ h => match lkAt τ i h with
  | some (n, o, hl) => match x τ hl with
    | .ok r h1 => .ok r (h1.set n o)
    | _ => .stuck
  | none => .stuck
theorem se_lk {x : EX} (i : Nat) (hn : PE X e (tLockE (rdE ca W x))) : SE ca X W e (eLk i x) := PE.imp hn fun σ H Q ⟨μ, F, τ, h, A, p⟩ => by
  unfold eLk at p
  cases hl : lkAt τ i h with
  | none => rw [hl] at p; exact p.elim
  | some q =>
    obtain ⟨n, o, hl'⟩ := q
    rw [hl] at p
    dsimp only at p
    obtain ⟨a, o', u, en, e0, el, rfl, hb, hu, mu, hod⟩ := lkAt_ok A hl
    refine ⟨a, u, hu, mu, fun od => ?_⟩
    obtain ⟨A1, E0⟩ := hod od
    refine ⟨μ, F, τ, _, A1, ?_⟩
    cases hx : x τ (h.set n o') with
    | stuck => rw [hx] at p; exact p.elim
    | exc c h1 => rw [hx] at p; exact p.elim
    | ok r h1 =>
      rw [hx] at p
      intro μ1 F1 H1 E1 R1 v V1
      obtain ⟨w1, w2, w3, w4⟩ := unlk_ok A.rel en e0 el hb E0 E1 R1
      refine ⟨w1, p μ1 F1 _ w4 w3 v ?_⟩
      cases r with
      | v d => exact V1
      | n od2 =>
        obtain ⟨a2, k1, k2, k3, k4, k5, k6⟩ := V1
        have hne : a2 ≠ a := by rintro rfl; exact k4 (E1.pre.elim fun m z => by rw [z.1]; exact List.mem_append_left _ (List.mem_of_getElem? en))
        rw [upd_ne hne] at k2
        exact ⟨a2, k1, k2, by rw [upd_ne hne]; exact k3, k4, k5, k6.mono (fun _ _ z => z) (Same.refl _) fun w z => by rw [upd_ne hne]; exact z⟩
def kD : Key → D
  | .inl i => .int i
  | .inr s => .str s
theorem kD_ok {μ : List Addr} {F : Hp} (k : Key) : VR ca μ F (kV k) (kD k) := by cases k <;> constructor
/-- the keys of a locked dict -/
def iKey (x : ED) : EI := fun τ h => (x τ h).bind fun d h1 => match d with
  | .ref n => match h1[n]? with
    | some (.lkK kds) => .ok (kds.map fun p => kD p.1, some (n, .lkK kds)) h1
    | some (.lkT kds) => .ok (kds.map fun p => .tup (p.1.map kD), some (n, .lkT kds)) h1
    | _ => .stuck
  | _ => .stuck
theorem kDs_ok {μ : List Addr} {F : Hp} : ∀ ks : List Key, VRs ca μ F (ks.map kV) (ks.map kD)
  | [] => .nil
  | k :: ks => .cons (kD_ok k) (kDs_ok ks)
theorem si_key {tg : Expr} {x : ED} (hx : SD ca X W e x) : SI ca X W tg e (iKey x) := PI.imp (pi_keys hx) fun σ H R ⟨μ, F, τ, h, A, p⟩ => ⟨μ, F, τ, h, A, p.bind.imp fun d μ1 F1 H1 h1 E1 R1 q v Vr => by
  cases Vr with
  | @ref a n en =>
    dsimp only at q
    cases e0 : h1[n]? with
    | none => rw [e0] at q; exact q.elim
    | some o =>
      rw [e0] at q
      cases o with
      | lkK kds =>
        obtain ⟨od, kvs, q1, q2, q3⟩ := R1.ob n a _ en e0
        refine ⟨a, od, rfl, .inl ⟨kvs, q1, q.ok R1 (fun m o z => by cases z; exact e0) _ ?_⟩⟩
        intro b μ2 F2 h2 H2 E2 R2 hk i
        have hH := (E2.st n a _ en e0 rfl).2 _ q1
        have hl : kds.length = kvs.length := by have := congrArg List.length q2; simpa using this.symm
        refine ⟨fun hi => ⟨⟨hH, by simpa [hl] using hi⟩, fun y H3 yy => ?_⟩, fun hi => ⟨hH, by simpa [hl] using hi⟩⟩
        obtain ⟨rfl, k, v, ek, rfl⟩ := yy
        refine ⟨F2, kD k, ?_, fun b => Ext.refl, R2, kD_ok k⟩
        have : (kds.map (·.1))[i]? = some k := by rw [← q2, List.getElem?_map, ek]; rfl
        rw [List.getElem?_map] at this
        obtain ⟨p, e1, e2⟩ := Option.map_eq_some_iff.mp this
        rw [List.getElem?_map, e1]
        show some (kD p.1) = _
        rw [e2]
      | lkT kds =>
        obtain ⟨od, kvs, q1, q2, q3⟩ := R1.ob n a _ en e0
        refine ⟨a, od, rfl, .inr ⟨kvs, q1, q.ok R1 (fun m o z => by cases z; exact e0) _ ?_⟩⟩
        intro b μ2 F2 h2 H2 E2 R2 hk i
        have hH := (E2.st n a _ en e0 rfl).2 _ q1
        have hl : kds.length = kvs.length := by have := congrArg List.length q2; simpa using this.symm
        refine ⟨fun hi => ⟨⟨hH, by simpa [hl] using hi⟩, fun y H3 yy => ?_⟩, fun hi => ⟨hH, by simpa [hl] using hi⟩⟩
        obtain ⟨rfl, k, v, l, ek, rfl, hq⟩ := yy
        obtain ⟨F3, w1, w2, w3⟩ := R2.fzTup hq
        refine ⟨F3, .tup (k.map kD), ?_, w3, w2, .tup w1 (kDs_ok k)⟩
        have : (kds.map (·.1))[i]? = some k := by rw [← q2, List.getElem?_map, ek]; rfl
        rw [List.getElem?_map] at this
        obtain ⟨p, e1, e2⟩ := Option.map_eq_some_iff.mp this
        rw [List.getElem?_map, e1]
        show some (D.tup (p.1.map kD)) = _
        rw [e2]
      | _ => exact q.elim
  | _ => exact (show False from q).elim⟩
end
end Z
set_option Elab.async false
set_option linter.all false
set_option maxRecDepth 100000
set_option maxHeartbeats 1000000
/-! Z13: instances made; builtins; methods of lists. -/
namespace Z
open PySem PySem.Spec L2
section
variable {ca : Cn} {X : Cx} {W : WF} {pos : Pos} {e a b c : Expr}
/-! ### C(..) whose instance is then fixed -/
def eMk (c n : Nat) (G : BD) (xs : EA) : EX := fun τ h => (xs τ h).bind fun ds h1 => if ds.length + 1 = n then
  (match G h1.length (.ref h1.length :: ds) (h1 ++ [.ins c []]) with
  | .next _ h3 => match h3[h1.length]? with
    | some (.ins c' fs) => if nrfs fs = true then .ok (.n (.ins c' fs)) (h3.take h1.length) else .stuck
    | _ => .stuck
  | _ => .stuck) else .stuck
theorem se_mk {C f : Addr} {cn : Nat} {fd : FuncData} {ps : List Str} {k : Nat} {G : BD} {x : Str} {p : Pos} {es : List Expr} {xs : EA} (hC : ca.ad cn = C) (M : Mk X.K C f) (F : FnOk X.prog X.w X.K X.mg X.base (L2.CX X.prog X.w) k f fd ps (spB ca ps.length G)) (hr : Room (k + 1) X.A)
    (hg : Gl X x) (hm : X.mg x = some (.ref C)) (hb : Binds X.K fd ps []) (tk : Takes X W) (ha : SA ca X W (e :: es) xs) (hdb : (x == ("__debug__" : Str)) = false) (he : starEach (e :: es) X.env = (false, eval e X.env) :: starEach es X.env)
    (hpl : (backTo pos (starEach es X.env)).any (·.1) = false) : SE ca X W (.Call (.Name x p) (e :: es) [] pos) (eMk cn ps.length G xs) :=
  PE.imp (pe_make M F hr hg hm hb .nil (E := fun _ _ _ => False) (fun pins σ H s e s' I c => passes_call tk (fun _ _ _ _ z => z.elim) pins σ H s e s' I c) ha hdb he hpl) fun σ H Q ⟨μ, F, τ, h, A, p⟩ => ⟨μ, F, τ, h, A, p.bind.imp fun ds μ1 F1 H1 h1 E1 R1 q vs Vs => by
    intro x dx hx hdx hne
    have A1 := A.ext E1 R1
    by_cases hn : ds.length + 1 = ps.length
    · rw [if_pos hn] at q
      have Ea : Ext h1.length μ1 F1 H1 h1 μ1 F1 (upd (upd H1 dx (.own x)) x (.ins C dx [])) h1 := (Ext.refl.upd hdx).upd (by rw [upd_ne (Ne.symm hne)]; exact hx)
      have Ra : RelH ca μ1 F1 h1 (upd (upd H1 dx (.own x)) x (.ins C dx [])) := (R1.upd hdx).upd (by rw [upd_ne (Ne.symm hne)]; exact hx)
      have hxm : x ∉ μ1 := fun z => R1.dom x z hx
      have hxF : F1 x = none := by
        cases q : F1 x with
        | none => rfl
        | some w => have := R1.fz _ _ q; rw [hx] at this; cases this
      have E2 : Ext h1.length μ1 F1 H1 h1 (μ1 ++ [x]) F1 (upd (upd H1 dx (.own x)) x (.ins C dx [])) (h1 ++ [.ins cn []]) := Ea.alloc hx (Nat.le_refl _)
      have R2 : RelH ca (μ1 ++ [x]) F1 (h1 ++ [.ins cn []]) (upd (upd H1 dx (.own x)) x (.ins C dx [])) := Ra.alloc (by rw [upd_same]; simp) hxm hxF ⟨dx, [], by rw [upd_same, hC], rfl, .nil⟩
      have ix : (μ1 ++ [x])[h1.length]? = some x := by rw [← R1.len]; simp
      refine ⟨μ1 ++ [x], F1, h1 ++ [.ins cn []], .ref h1.length :: ds, h1.length, R2, .cons (.ref ix) (by rw [List.append_nil]; exact E2.vrs Vs), by rw [List.length_cons]; exact hn, by simp, ?_⟩
      cases hG : G h1.length (.ref h1.length :: ds) (h1 ++ [.ins cn []]) with
      | next s h3 =>
        rw [hG] at q
        intro μ3 F3 H3 E3 R3
        refine ⟨rfl, ?_⟩
        have E4 := E2.trans E3
        obtain ⟨Rc, Ec⟩ := cut_ok R1 E4 R3
        have ix3 := E3.ix _ _ ix
        dsimp only at q
        split at q
        · rename_i c' fs e3
          by_cases hf : nrfs fs = true
          · rw [if_pos hf] at q
            refine q μ1 F3 H3 (Ec τ.b A1.bl) Rc (.ref x) ⟨x, rfl, E1.fresh hx, R3.dom x (List.mem_of_getElem? ix3), hxm, R3.sep _ x _ ix3 e3 (fun z => nomatch z), (R3.ob _ x _ ix3 e3).nrf hf⟩
          · rw [if_neg hf] at q; exact q.elim
        · exact q.elim
      | _ => rw [hG] at q; exact q.elim
    · rw [if_neg hn] at q; exact q.elim⟩
/-! ### builtins -/
def fLen : FA := fun xs h => match xs with
  | [d] => match asQ h d with
    | some ds => .ok (.v (.int ds.length)) h
    | none => match d with
      | .str z => if z.length ≤ sizeLine then .ok (.v (.int z.length)) h else .stuck
      | d => match asD h d with
        | some (.k kds) => .ok (.v (.int kds.length)) h
        | _ => .stuck
  | _ => .stuck
def rLen (K : PySem.W.Frag) : List V → Hp → VK → Prop := fun xs H Q => (∃ p ys, xs = [.ref p] ∧ (SqL K H p ys ∨ SqT K H p ys) ∧ Q (.int ys.length) H) ∨ (∃ z, xs = [.str z] ∧ z.length ≤ sizeLine ∧ Q (.int z.length) H) ∨ ∃ a kvs, xs = [.ref a] ∧ Rd H a (.dK kvs) ∧ Q (.int kvs.length) H
theorem cr_len : CallR X (.builtin "len") (rLen X.K) := by
  intro pins s σ H xs us Q I r h
  rcases h with h | h | ⟨a, kvs, rfl, q, w⟩
  · exact call_len_seq pins s σ H xs us Q I r h
  · exact call_len_str pins s σ H xs us Q I r h
  · obtain ⟨u, rfl, ru⟩ := vals1 r
    obtain rfl : u = Value.ref a := ru
    exact d_len I q fun t s' I' => ⟨.int kvs.length, H, I', ⟨t, rfl⟩, w⟩
theorem VRs.one {μ : List Addr} {F : Hp} {vs : List V} {d : D} (r : VRs ca μ F vs [d]) : ∃ v, vs = [v] ∧ VR ca μ F v d := by
  cases r with
  | cons h t => cases t; exact ⟨_, rfl, h⟩
theorem lk_len {K : PySem.W.Frag} : LkA ca fLen (rLen K) := by
  intro b μ F H h Wx vs ds Q R Vs _ p
  unfold fLen at p
  split at p
  · rename_i d
    obtain ⟨v, rfl, Vr⟩ := Vs.one
    cases e1 : asQ h d with
    | some ds =>
      simp only [e1] at p
      obtain ⟨a, vs, rfl, q, r⟩ := asQ_ok R Vr e1
      refine .inl ⟨a, vs, rfl, SqQ q, ?_⟩
      rw [r.length]
      exact p.ok R _ (.int _)
    | none =>
      simp only [e1] at p
      have dict : ∀ {kds}, asD h d = some (.k kds) → PostG ca b μ F H h (.ok (.v (.int kds.length)) h) Wx (fun r μ1 F1 H1 _ => ∀ v, RR ca μ1 F1 H H1 v r → Q v H1) → rLen K [v] H Q := fun {kds} e2 p => by
        obtain ⟨a, rfl, kvs, q1, q2, q3⟩ := asD_ok R Vr e2
        refine .inr (.inr ⟨a, kvs, rfl, q1, ?_⟩)
        have : kvs.length = kds.length := by have := congrArg List.length q2; simpa using this
        rw [this]
        exact p.ok R _ (.int _)
      cases d with
      | str z =>
        cases Vr
        dsimp only at p
        by_cases hC : z.length ≤ sizeLine
        · rw [if_pos hC] at p
          exact .inr (.inl ⟨z, rfl, hC, p.ok R _ (.int _)⟩)
        · rw [if_neg hC] at p; exact p.elim
      | _ =>
        dsimp only at p
        split at p
        · rename_i kds e2
          exact dict e2 p
        · exact p.elim
  · exact p.elim
/-- list(x), tuple(x) -/
def fList : FA := fun xs h => match xs with
  | [d] => match asQ h d with
    | some ds => .ok (.n (.lst ds)) h
    | none => .stuck
  | _ => .stuck
theorem lk_list {K : PySem.W.Frag} : LkA ca fList (fun xs H Q => ∃ p ys, xs = [.ref p] ∧ (SqL K H p ys ∨ SqT K H p ys) ∧ ∀ l, H l = none → Q (.ref l) (upd H l (.lst ys))) := by
  intro b μ F H h Wx vs ds Q R Vs _ p
  unfold fList at p
  split at p
  · rename_i d
    obtain ⟨v, rfl, Vr⟩ := Vs.one
    cases e1 : asQ h d with
    | some ds =>
      simp only [e1] at p
      obtain ⟨a, vs, rfl, q, r⟩ := asQ_ok R Vr e1
      exact ⟨a, vs, rfl, SqQ q, fun l hl => new_lst R r p hl⟩
    | none => simp only [e1] at p; exact p.elim
  · exact p.elim
def fTuple : FA := fun xs h => match xs with
  | [d] => match asQ h d with
    | some ds => .ok (.v (.tup ds)) h
    | none => .stuck
  | _ => .stuck
theorem lk_tuple {K : PySem.W.Frag} : LkA ca fTuple (fun xs H Q => ∃ p ys, xs = [.ref p] ∧ ((SqL K H p ys ∧ ∀ l, H l = none → Q (.ref l) (upd H l (.tup ys))) ∨ (SqT K H p ys ∧ Q (.ref p) H))) := by
  intro b μ F H h Wx vs ds Q R Vs _ p
  unfold fTuple at p
  split at p
  · rename_i d
    obtain ⟨v, rfl, Vr⟩ := Vs.one
    have lst : ∀ {ds}, asL h d = some ds → PostG ca b μ F H h (.ok (.v (.tup ds)) h) Wx (fun r μ1 F1 H1 _ => ∀ v, RR ca μ1 F1 H H1 v r → Q v H1) → ∃ p ys, [v] = [V.ref p] ∧ ((SqL K H p ys ∧ ∀ l, H l = none → Q (.ref l) (upd H l (.tup ys))) ∨ (SqT K H p ys ∧ Q (.ref p) H)) := fun {ds} e2 p => by
      obtain ⟨a, vs, rfl, q, r⟩ := asL_ok R Vr e2
      exact ⟨a, vs, rfl, .inl ⟨SqL.of q, fun l hl => new_tup R r p hl⟩⟩
    cases e1 : asQ h d with
    | some ds =>
      simp only [e1] at p
      cases d with
      | tup es =>
        cases e1
        cases Vr with
        | tup q r => exact ⟨_, _, rfl, .inr ⟨SqT.of (R.fz _ _ q), p.ok R _ (show VR ca _ _ _ _ from .tup q r)⟩⟩
      | _ => exact lst e1 p
    | none => simp only [e1] at p; exact p.elim
  · exact p.elim
def fInt : FA := fun xs h => match xs with
  | [.int i] => .ok (.v (.int i)) h
  | [.bl k] => .ok (.v (.int (if k then 1 else 0))) h
  | _ => .stuck
theorem lk_int : LkA ca fInt (fun xs H Q => (∃ i, xs = [.int i] ∧ Q (.int i) H) ∨ ∃ k, xs = [.bl k] ∧ Q (.int (if k then 1 else 0)) H) := by
  intro b μ F H h Wx vs ds Q R Vs _ p
  unfold fInt at p
  split at p
  · obtain ⟨v, rfl, Vr⟩ := Vs.one
    cases Vr
    exact .inl ⟨_, rfl, p.ok R _ (.int _)⟩
  · obtain ⟨v, rfl, Vr⟩ := Vs.one
    cases Vr
    exact .inr ⟨_, rfl, p.ok R _ (.int _)⟩
  · exact p.elim
/-- a list of ints, of bools -/
def asI : List D → Option (List Int)
  | [] => some []
  | .int i :: ds => (asI ds).map (i :: ·)
  | _ :: _ => none
def asB : List D → Option (List Bool)
  | [] => some []
  | .bl i :: ds => (asB ds).map (i :: ·)
  | _ :: _ => none
theorem asI_eq : ∀ {ds : List D} {ns : List Int}, asI ds = some ns → ds = ns.map D.int
  | [], ns, e => by cases e; rfl
  | .int i :: ds, ns, e => by
    rw [asI] at e
    obtain ⟨ns', e1, rfl⟩ := Option.map_eq_some_iff.mp e
    rw [asI_eq e1]; rfl
  | .non :: _, _, e => by cases e
  | .bl _ :: _, _, e => by cases e
  | .str _ :: _, _, e => by cases e
  | .tup _ :: _, _, e => by cases e
  | .lst _ :: _, _, e => by cases e
  | .dK _ :: _, _, e => by cases e
  | .dT _ :: _, _, e => by cases e
  | .obj _ _ :: _, _, e => by cases e
  | .ref _ :: _, _, e => by cases e
theorem asB_eq : ∀ {ds : List D} {ns : List Bool}, asB ds = some ns → ds = ns.map D.bl
  | [], ns, e => by cases e; rfl
  | .bl i :: ds, ns, e => by
    rw [asB] at e
    obtain ⟨ns', e1, rfl⟩ := Option.map_eq_some_iff.mp e
    rw [asB_eq e1]; rfl
  | .non :: _, _, e => by cases e
  | .int _ :: _, _, e => by cases e
  | .str _ :: _, _, e => by cases e
  | .tup _ :: _, _, e => by cases e
  | .lst _ :: _, _, e => by cases e
  | .dK _ :: _, _, e => by cases e
  | .dT _ :: _, _, e => by cases e
  | .obj _ _ :: _, _, e => by cases e
  | .ref _ :: _, _, e => by cases e
@[simp] theorem asI_map (ns : List Int) : asI (ns.map D.int) = some ns := by
  induction ns with
  | nil => rfl
  | cons n ns ih => rw [List.map_cons, asI, ih]; rfl
@[simp] theorem asB_map (ns : List Bool) : asB (ns.map D.bl) = some ns := by
  induction ns with
  | nil => rfl
  | cons n ns ih => rw [List.map_cons, asB, ih]; rfl
def fInts (f : List Int → Option D) : FA := fun xs h => match xs with
  | [d] => match asL h d with
    | some ds => match asI ds with
      | some ns => match f ns with
        | some r => .ok (.v r) h
        | none => .stuck
      | none => .stuck
    | none => .stuck
  | _ => .stuck
theorem fInts_ok {f : List Int → Option D} {b : Nat} {μ : List Addr} {F H : Hp} {h : Own} {Wx : Nat → Hp → Prop} {vs : List V} {ds : List D} {Q : VK} (R : RelH ca μ F h H) (Vs : VRs ca μ F vs ds)
    (p : PostG ca b μ F H h (fInts f ds h) Wx (fun r μ1 F1 H1 _ => ∀ v, RR ca μ1 F1 H H1 v r → Q v H1)) : ∃ (a : Addr) (ns : List Int) (r : D), vs = [V.ref a] ∧ H a = some (.lst (ns.map V.int)) ∧ f ns = some r ∧ ∀ v, VR ca μ F v r → Q v H := by
  unfold fInts at p
  split at p
  · rename_i d
    obtain ⟨v, rfl, Vr⟩ := Vs.one
    cases e1 : asL h d with
    | some ds =>
      simp only [e1] at p
      obtain ⟨a, vs, rfl, q, r⟩ := asL_ok R Vr e1
      cases e2 : asI ds with
      | none => simp only [e2] at p; exact p.elim
      | some ns =>
        simp only [e2] at p
        cases e3 : f ns with
        | none => simp only [e3] at p; exact p.elim
        | some r' =>
          simp only [e3] at p
          have := asI_eq e2
          subst this
          have := r.ints
          subst this
          exact ⟨a, ns, r', rfl, q, e3, p.ok R⟩
    | none => simp only [e1] at p; exact p.elim
  · exact p.elim
def lmax : List Int → Option Int
  | [] => none
  | n :: ns => match lmax ns with
    | some m => some (if n < m then m else n)
    | none => some n
def lmin : List Int → Option Int
  | [] => none
  | n :: ns => match lmin ns with
    | some m => some (if m < n then m else n)
    | none => some n
theorem lmax_ok : ∀ {ns : List Int} {m : Int}, lmax ns = some m → m ∈ ns ∧ ∀ y ∈ ns, y ≤ m
  | [], _, e => by cases e
  | n :: ns, m, e => by
    rw [lmax] at e
    cases h : lmax ns with
    | none =>
      rw [h] at e; cases e
      cases ns with
      | nil => exact ⟨by simp, fun y hy => by simp at hy; omega⟩
      | cons a l => rw [lmax] at h; split at h <;> cases h
    | some k =>
      obtain ⟨h1, h2⟩ := lmax_ok h
      rw [h] at e
      have e' : (if n < k then k else n) = m := Option.some.inj e
      by_cases hk : n < k
      · rw [if_pos hk] at e'; subst e'
        exact ⟨List.mem_cons_of_mem _ h1, fun y hy => by rcases List.mem_cons.mp hy with rfl | hy; omega; exact h2 y hy⟩
      · rw [if_neg hk] at e'; subst e'
        exact ⟨List.mem_cons_self, fun y hy => by rcases List.mem_cons.mp hy with rfl | hy; omega; have := h2 y hy; omega⟩
theorem lmin_ok : ∀ {ns : List Int} {m : Int}, lmin ns = some m → m ∈ ns ∧ ∀ y ∈ ns, m ≤ y
  | [], _, e => by cases e
  | n :: ns, m, e => by
    rw [lmin] at e
    cases h : lmin ns with
    | none =>
      rw [h] at e; cases e
      cases ns with
      | nil => exact ⟨by simp, fun y hy => by simp at hy; omega⟩
      | cons a l => rw [lmin] at h; split at h <;> cases h
    | some k =>
      obtain ⟨h1, h2⟩ := lmin_ok h
      rw [h] at e
      have e' : (if k < n then k else n) = m := Option.some.inj e
      by_cases hk : k < n
      · rw [if_pos hk] at e'; subst e'
        exact ⟨List.mem_cons_of_mem _ h1, fun y hy => by rcases List.mem_cons.mp hy with rfl | hy; omega; exact h2 y hy⟩
      · rw [if_neg hk] at e'; subst e'
        exact ⟨List.mem_cons_self, fun y hy => by rcases List.mem_cons.mp hy with rfl | hy; omega; have := h2 y hy; omega⟩
def fSum : FA := fInts fun ns => some (.int ns.sum)
def fMax : FA := fInts fun ns => (lmax ns).map .int
def fMin : FA := fInts fun ns => (lmin ns).map .int
theorem lk_sum {K : PySem.W.Frag} : LkA ca fSum (rSum K) := fun b μ F H h Wx vs ds Q R Vs _ p => by
  obtain ⟨a, ns, r, rfl, q, e, k⟩ := fInts_ok R Vs p
  cases e
  exact ⟨a, ns, rfl, SqL.of q, k _ (.int _)⟩
theorem lk_max {K : PySem.W.Frag} : LkA ca fMax (rMax K) := fun b μ F H h Wx vs ds Q R Vs _ p => by
  obtain ⟨a, ns, r, rfl, q, e, k⟩ := fInts_ok R Vs p
  obtain ⟨m, e1, rfl⟩ := Option.map_eq_some_iff.mp e
  obtain ⟨h1, h2⟩ := lmax_ok e1
  refine ⟨a, ns, rfl, SqL.of q, List.length_pos_of_mem h1, fun m' g1 g2 => ?_⟩
  have : m' = m := Int.le_antisymm (h2 m' g1) (g2 m h1)
  subst this
  exact k _ (.int _)
theorem lk_min {K : PySem.W.Frag} : LkA ca fMin (rMin K) := fun b μ F H h Wx vs ds Q R Vs _ p => by
  obtain ⟨a, ns, r, rfl, q, e, k⟩ := fInts_ok R Vs p
  obtain ⟨m, e1, rfl⟩ := Option.map_eq_some_iff.mp e
  obtain ⟨h1, h2⟩ := lmin_ok e1
  refine ⟨a, ns, rfl, SqL.of q, List.length_pos_of_mem h1, fun m' g1 g2 => ?_⟩
  have : m' = m := Int.le_antisymm (g2 m h1) (h2 m' g1)
  subst this
  exact k _ (.int _)
def fMax2 : FA := fun xs h => match xs with
  | [.int i, .int j] => .ok (.v (.int (if j > i then j else i))) h
  | _ => .stuck
def fMin2 : FA := fun xs h => match xs with
  | [.int i, .int j] => .ok (.v (.int (if j < i then j else i))) h
  | _ => .stuck
theorem VRs.two {μ : List Addr} {F : Hp} {vs : List V} {d1 d2 : D} (r : VRs ca μ F vs [d1, d2]) : ∃ v w, vs = [v, w] ∧ VR ca μ F v d1 ∧ VR ca μ F w d2 := by
  cases r with
  | cons h t => cases t with
    | cons h2 t => cases t; exact ⟨_, _, rfl, h, h2⟩
theorem lk_max2 : LkA ca fMax2 (fun xs H Q => ∃ i j, xs = [.int i, .int j] ∧ Q (.int (if j > i then j else i)) H) := fun b μ F H h Wx vs ds Q R Vs _ p => by
  unfold fMax2 at p
  split at p
  · obtain ⟨v, w, rfl, V1, V2⟩ := Vs.two
    cases V1; cases V2
    exact ⟨_, _, rfl, p.ok R _ (.int _)⟩
  · exact p.elim
theorem lk_min2 : LkA ca fMin2 (fun xs H Q => ∃ i j, xs = [.int i, .int j] ∧ Q (.int (if j < i then j else i)) H) := fun b μ F H h Wx vs ds Q R Vs _ p => by
  unfold fMin2 at p
  split at p
  · obtain ⟨v, w, rfl, V1, V2⟩ := Vs.two
    cases V1; cases V2
    exact ⟨_, _, rfl, p.ok R _ (.int _)⟩
  · exact p.elim
def fBls (f : List Bool → Bool) : FA := fun xs h => match xs with
  | [d] => match asL h d with
    | some ds => match asB ds with
      | some ns => .ok (.v (.bl (f ns))) h
      | none => .stuck
    | none => .stuck
  | _ => .stuck
def fAny : FA := fBls fun ns => ns.any id
def fAll : FA := fBls fun ns => ns.all id
theorem fBls_ok {f : List Bool → Bool} {b : Nat} {μ : List Addr} {F H : Hp} {h : Own} {Wx : Nat → Hp → Prop} {vs : List V} {ds : List D} {Q : VK} (R : RelH ca μ F h H) (Vs : VRs ca μ F vs ds)
    (p : PostG ca b μ F H h (fBls f ds h) Wx (fun r μ1 F1 H1 _ => ∀ v, RR ca μ1 F1 H H1 v r → Q v H1)) : ∃ (a : Addr) (ns : List Bool), vs = [V.ref a] ∧ H a = some (.lst (ns.map V.bl)) ∧ Q (.bl (f ns)) H := by
  unfold fBls at p
  split at p
  · rename_i d
    obtain ⟨v, rfl, Vr⟩ := Vs.one
    cases e1 : asL h d with
    | some ds =>
      simp only [e1] at p
      obtain ⟨a, vs, rfl, q, r⟩ := asL_ok R Vr e1
      cases e2 : asB ds with
      | none => simp only [e2] at p; exact p.elim
      | some ns =>
        simp only [e2] at p
        have := asB_eq e2
        subst this
        have := r.bls
        subst this
        exact ⟨a, ns, rfl, q, p.ok R _ (.bl _)⟩
    | none => simp only [e1] at p; exact p.elim
  · exact p.elim
theorem lk_any {K : PySem.W.Frag} : LkA ca fAny (rAny K) := fun b μ F H h Wx vs ds Q R Vs _ p => by
  obtain ⟨a, ns, rfl, q, k⟩ := fBls_ok R Vs p
  exact ⟨a, ns, rfl, SqL.of q, k⟩
theorem lk_all {K : PySem.W.Frag} : LkA ca fAll (rAll K) := fun b μ F H h Wx vs ds Q R Vs _ p => by
  obtain ⟨a, ns, rfl, q, k⟩ := fBls_ok R Vs p
  exact ⟨a, ns, rfl, SqL.of q, k⟩
/-! ### sorted -/
def isort (ns : List Int) : List Int := ns.mergeSort (· ≤ ·)
theorem isort_uniq {ns ms : List Int} (hp : ms.Perm ns) (hs : ms.Pairwise (· ≤ ·)) : ms = isort ns := by
  have h1 : (isort ns).Perm ns := List.mergeSort_perm _ _
  have h2 : (isort ns).Pairwise (· ≤ ·) := by
    have := List.pairwise_mergeSort (le := fun a b : Int => decide (a ≤ b)) (fun a b c h1 h2 => by simp at *; omega) (fun a b => by simp; omega) ns
    exact this.imp fun h => by simpa using h
  exact (hp.trans h1.symm).eq_of_pairwise (fun a b _ _ h1 h2 => Int.le_antisymm h1 h2) hs h2
def keyI : List Key → Option (List Int)
  | [] => some []
  | .inl i :: ks => (keyI ks).map (i :: ·)
  | _ :: _ => none
theorem keyI_eq : ∀ {ks : List Key} {ns : List Int}, keyI ks = some ns → ks = ns.map Sum.inl
  | [], ns, e => by cases e; rfl
  | .inl i :: ks, ns, e => by
    rw [keyI] at e
    obtain ⟨ns', e1, rfl⟩ := Option.map_eq_some_iff.mp e
    rw [keyI_eq e1]; rfl
  | .inr _ :: _, _, e => by cases e
@[simp] theorem keyI_map (ns : List Int) : keyI (ns.map Sum.inl) = some ns := by
  induction ns with
  | nil => rfl
  | cons n ns ih => rw [List.map_cons, keyI, ih]; rfl
def fSortI : FA := fun xs h => match xs with
  | [d] => match asL h d with
    | some ds => match asI ds with
      | some ns => .ok (.n (.lst ((isort ns).map .int))) h
      | none => .stuck
    | none => .stuck
  | _ => .stuck
theorem lk_sortI {K : PySem.W.Frag} : LkA ca fSortI (rSortedI K) := fun b μ F H h Wx vs ds Q R Vs _ p => by
  unfold fSortI at p
  split at p
  · rename_i d
    obtain ⟨v, rfl, Vr⟩ := Vs.one
    cases e1 : asL h d with
    | some ds =>
      simp only [e1] at p
      obtain ⟨a, vs, rfl, q, r⟩ := asL_ok R Vr e1
      cases e2 : asI ds with
      | none => simp only [e2] at p; exact p.elim
      | some ns =>
        simp only [e2] at p
        have := asI_eq e2
        subst this
        have := r.ints
        subst this
        refine ⟨a, ns, rfl, SqL.of q, fun ms l h1 h2 hl => ?_⟩
        rw [isort_uniq h1 h2]
        exact new_lst R (VRs.of_ints _) p hl
    | none => simp only [e1] at p; exact p.elim
  · exact p.elim
def fSortD : FA := fun xs h => match xs with
  | [d] => match asD h d with
    | some (.k kds) => match keyI (kds.map (·.1)) with
      | some ns => if ns.length < 64 then .ok (.n (.lst ((isort ns).map .int))) h else .stuck
      | none => .stuck
    | _ => .stuck
  | _ => .stuck
def rSortD : List V → Hp → VK → Prop := fun xs H Q => ∃ (a : Addr) (kvs : List (Key × V)) (ks : List Int), xs = [.ref a] ∧ Rd H a (.dK kvs) ∧ kvs.map (·.1) = ks.map Sum.inl ∧ ks.length < 64 ∧
    ∀ (ys : List Int) (p : Addr), ys.Perm ks → ys.Pairwise (· ≤ ·) → H p = none → Q (.ref p) (upd H p (.lst (ys.map V.int)))
theorem lk_sortD : LkA ca fSortD rSortD := fun b μ F H h Wx vs ds Q R Vs _ p => by
  unfold fSortD at p
  split at p
  · rename_i d
    obtain ⟨v, rfl, Vr⟩ := Vs.one
    split at p
    · rename_i kds e1
      obtain ⟨a, rfl, kvs, q1, q2, q3⟩ := asD_ok R Vr e1
      cases e2 : keyI (kds.map (·.1)) with
      | none => simp only [e2] at p; exact p.elim
      | some ns =>
        simp only [e2] at p
        by_cases hC : ns.length < 64
        · rw [if_pos hC] at p
          refine ⟨a, kvs, ns, rfl, q1, by rw [q2]; exact keyI_eq e2, hC, fun ms l h1 h2 hl => ?_⟩
          rw [isort_uniq h1 h2]
          exact new_lst R (VRs.of_ints _) p hl
        · rw [if_neg hC] at p; exact p.elim
    · exact p.elim
  · exact p.elim
def orA (f g : FA) : FA := fun x h => match f x h with | .stuck => g x h | z => z
def fSorted : FA := orA fSortI fSortD
theorem cr_sorted' (hc : X.calm = true) : CallR X (.builtin "sorted") (fun xs H Q => rSortedI X.K xs H Q ∨ rSortD xs H Q) := cr_sortedI.or (call_sortedDI hc)
theorem lk_sorted {K : PySem.W.Frag} : LkA ca fSorted (fun xs H Q => rSortedI K xs H Q ∨ rSortD xs H Q) := lk_sortI.or lk_sortD
/-! ### isinstance -/
def tyD (h : Own) : D → Option String
  | .non => some "NoneType"
  | .bl _ => some "bool"
  | .int _ => some "int"
  | .str _ => some "str"
  | .tup _ => some "tuple"
  | .lst _ => some "list"
  | .dK _ => some "dict"
  | .dT _ => some "dict"
  | .ref n => match h[n]? with
    | some (.lst _) => some "list"
    | some (.dK _) => some "dict"
    | some (.dT _) => some "dict"
    | _ => none
  | _ => none
theorem tyD_ok {K : PySem.W.Frag} {μ : List Addr} {F H : Hp} {h : Own} {v : V} {d : D} {T : String} (R : RelH ca μ F h H) (V1 : VR ca μ F v d) (e : tyD h d = some T) : TyX K H v (.type T) := by
  cases V1 with
  | non => cases e; exact .base .non
  | bl => cases e; exact .base (.bl _)
  | int => cases e; exact .base (.int _)
  | str => cases e; exact .base (.str _)
  | tup q r => cases e; exact .base (.tup (R.fz _ _ q))
  | lst q r => cases e; exact .base (.lst (R.fz _ _ q))
  | dK q k r => cases e; exact .base (.dK (R.fz _ _ q))
  | dT q k r => cases e; exact .base (.dT (R.fz _ _ q))
  | obj => cases e
  | ro a => cases e
  | ref q =>
    rename_i a n
    unfold tyD at e
    dsimp only at e
    split at e
    · rename_i ds q2
      cases e
      obtain ⟨vs, q3, r3⟩ := R.ob n _ _ q q2
      exact .base (.lst q3)
    · rename_i ds q2
      cases e
      obtain ⟨vs, q3, r3⟩ := R.ob n _ _ q q2
      exact .base (.dK q3)
    · rename_i ds q2
      cases e
      obtain ⟨vs, q3, r3⟩ := R.ob n _ _ q q2
      exact .base (.dT q3)
    · cases e
def eIsI (T : String) (x : ED) : ED := fun τ h => (x τ h).bind fun d h1 => match tyD h1 d with
  | some t => match kitB t T with
    | some k => .ok (.bl k) h1
    | none => .stuck
  | none => .stuck
theorem sd_isi {T : String} {x : ED} (h : PE X e (tCB (rIsi X.K) (L2.tCons (rdD ca W x) (L2.tCons (tC (.ty T)) L2.tNil)))) : SD ca X W e (eIsI T x) := PE.imp h fun σ H Q ⟨μ, F, τ, h, A, p⟩ => ⟨μ, F, τ, h, A, p.bind.imp fun d μ1 F1 H1 h1 E1 R1 q v Vr => by
  cases e1 : tyD h1 d with
  | none => rw [e1] at q; exact q.elim
  | some t =>
    rw [e1] at q
    dsimp only at q
    cases e2 : kitB t T with
    | none => rw [e2] at q; exact q.elim
    | some k =>
      rw [e2] at q
      exact ⟨v, .ty T, _, .type T, k, rfl, .ty T, tyD_ok R1 Vr e1, kit_ty e2, q.ok R1 _ (.bl _)⟩⟩
/-! ### methods of lists -/
def ownL (h : Own) : D → Option (Nat × List D)
  | .ref n => match h[n]? with
    | some (.lst ds) => some (n, ds)
    | _ => none
  | _ => none
theorem ownL_ok {μ : List Addr} {F H : Hp} {h : Own} {v : V} {d : D} {n : Nat} {ds : List D} (R : RelH ca μ F h H) (V1 : VR ca μ F v d) (e : ownL h d = some (n, ds)) : ∃ a vs, v = .ref a ∧ μ[n]? = some a ∧ h[n]? = some (.lst ds) ∧ H a = some (.lst vs) ∧ VRs ca μ F vs ds := by
  cases V1 with
  | ref q =>
    rename_i a m
    unfold ownL at e
    dsimp only at e
    split at e
    · rename_i ds' q2
      cases e
      obtain ⟨vs, q3, r3⟩ := R.ob _ _ _ q q2
      exact ⟨a, vs, rfl, q, q2, q3, r3⟩
    · cases e
  | _ => cases e
/-- an own list becomes another; what is handed back -/
def chL (f : List D → List D → Option (List D × D)) : FM := fun d xs b h => match ownL h d with
  | some (n, ds) => match f ds xs with
    | some (ds', r) => match putO h b n (.lst ds') with
      | some h' => .ok (.v r) h'
      | none => .stuck
    | none => .stuck
  | none => .stuck
theorem chL_ok {f : List D → List D → Option (List D × D)} {b : Nat} {μ : List Addr} {F H : Hp} {h : Own} {Wx : Nat → Hp → Prop} {x : V} {d : D} {vs : List V} {es : List D} {Q : VK} (R : RelH ca μ F h H) (V1 : VR ca μ F x d)
    (p : PostG ca b μ F H h (chL f d es b h) Wx (fun r μ1 F1 H1 _ => ∀ v, RR ca μ1 F1 H H1 v r → Q v H1)) :
    ∃ (a : Addr) (ws : List V) (ds ds' : List D) (r : D), x = .ref a ∧ H a = some (.lst ws) ∧ VRs ca μ F ws ds ∧ f ds es = some (ds', r) ∧ ∀ ws' v, VRs ca μ F ws' ds' → VR ca μ F v r → Q v (upd H a (.lst ws')) := by
  unfold chL at p
  cases e1 : ownL h d with
  | none => rw [e1] at p; exact p.elim
  | some q =>
    obtain ⟨n, ds⟩ := q
    rw [e1] at p
    dsimp only at p
    obtain ⟨a, ws, rfl, en, e0, q1, r1⟩ := ownL_ok R V1 e1
    cases e2 : f ds es with
    | none => rw [e2] at p; exact p.elim
    | some q2 =>
      obtain ⟨ds', r⟩ := q2
      rw [e2] at p
      dsimp only at p
      cases e3 : putO h b n (.lst ds') with
      | none => rw [e3] at p; exact p.elim
      | some h' =>
        rw [e3] at p
        refine ⟨a, ws, ds, ds', r, rfl, q1, r1, e2, fun ws' v rw' rv => ?_⟩
        obtain ⟨R2, E2⟩ := put_ok R en e0 rfl e3 (u := .lst ws') fun H' q => ⟨_, q, rw'⟩
        exact p μ F _ E2 R2 v (show VR ca _ _ _ _ from rv)
def fAppend : FM := chL fun ds xs => match xs with
  | [x] => if ds.length < sizeLine then some (ds ++ [x], .non) else none
  | _ => none
theorem lk_append : LkM ca fAppend rAppend := fun b μ F H h Wx x d vs ds Q R V1 Vs _ p => by
  obtain ⟨a, ws, ds0, ds', r, rfl, q, r1, e, k⟩ := chL_ok (vs := vs) R V1 p
  split at e
  · rename_i y
    obtain ⟨v, rfl, Vr⟩ := Vs.one
    by_cases hl : ds0.length < sizeLine
    · rw [if_pos hl] at e
      cases e
      exact ⟨a, ws, v, rfl, rfl, q, by rw [r1.length]; exact hl, k _ _ (r1.append (.cons Vr .nil)) .non⟩
    · rw [if_neg hl] at e; cases e
  · cases e
def fPop : FM := chL fun ds xs => match xs with
  | [] => match ds[ds.length - 1]? with
    | some y => some (ds.dropLast, y)
    | none => none
  | _ => none
theorem VRs.dropLast {μ : List Addr} {F : Hp} {vs : List V} {ds : List D} (r : VRs ca μ F vs ds) : VRs ca μ F vs.dropLast ds.dropLast := by
  rw [List.dropLast_eq_take, List.dropLast_eq_take, r.length]
  exact r.take _
theorem lk_pop : LkM ca fPop rPop := fun b μ F H h Wx x d vs ds Q R V1 Vs _ p => by
  obtain ⟨a, ws, ds0, ds', r, rfl, q, r1, e, k⟩ := chL_ok (vs := vs) R V1 p
  split at e
  · cases Vs
    split at e
    · rename_i y ey
      cases e
      obtain ⟨v, ev, Vr⟩ := r1.get ey
      exact ⟨a, ws, v, rfl, rfl, q, by rw [r1.length]; exact ev, k _ _ r1.dropLast Vr⟩
    · cases e
  · cases e
open Classical in
noncomputable def fPopAt : FM := chL fun ds xs => match xs with
  | [.int i] => if R63 i then match ixN ds.length i with
    | some k => match ds[k]? with
      | some y => some (ds.eraseIdx k, y)
      | none => none
    | none => none else none
  | _ => none
theorem lk_popAt : LkM ca fPopAt rPopAt := fun b μ F H h Wx x d vs ds Q R V1 Vs _ p => by
  obtain ⟨a, ws, ds0, ds', r, rfl, q, r1, e, k⟩ := chL_ok (vs := vs) R V1 p
  split at e
  · rename_i i
    obtain ⟨v, rfl, Vi⟩ := Vs.one
    cases Vi
    by_cases hi : R63 i
    · rw [if_pos hi] at e
      cases ek : ixN ds0.length i with
      | none => rw [ek] at e; cases e
      | some j =>
        rw [ek] at e
        dsimp only at e
        split at e
        · rename_i y ey
          cases e
          obtain ⟨v, ev, Vr⟩ := r1.get ey
          refine ⟨a, ws, i, j, v, rfl, rfl, q, (R63.of hi).1, (R63.of hi).2, ?_, ev, k _ _ (r1.eraseIdx j) Vr⟩
          rw [r1.length]
          exact (ixN_seq ek).1
        · cases e
    · rw [if_neg hi] at e; cases e
  · cases e
def fReverse : FM := chL fun ds xs => match xs with
  | [] => some (ds.reverse, .non)
  | _ => none
theorem lk_reverse : LkM ca fReverse rReverse := fun b μ F H h Wx x d vs ds Q R V1 Vs _ p => by
  obtain ⟨a, ws, ds0, ds', r, rfl, q, r1, e, k⟩ := chL_ok (vs := vs) R V1 p
  split at e
  · cases Vs
    cases e
    exact ⟨a, ws, rfl, rfl, q, k _ _ r1.reverse .non⟩
  · cases e
def fExtend : FM := fun d xs b h => match ownL h d, xs with
  | some (n, ds), [x] => match asL h x with
    | some es => if ds.length + es.length ≤ sizeLine then match putO h b n (.lst (ds ++ es)) with
      | some h' => .ok (.v .non) h'
      | none => .stuck else .stuck
    | none => .stuck
  | _, _ => .stuck
theorem lk_extend : LkM ca fExtend rExtend := fun b μ F H h Wx x d vs ds Q R V1 Vs _ p => by
  unfold fExtend at p
  split at p
  · rename_i n ds0 y e1
    obtain ⟨a, ws, rfl, en, e0, q1, r1⟩ := ownL_ok R V1 e1
    obtain ⟨v, rfl, Vr⟩ := Vs.one
    cases e2 : asL h y with
    | none => rw [e2] at p; exact p.elim
    | some es =>
      rw [e2] at p
      dsimp only at p
      obtain ⟨a2, ws2, rfl, q2, r2⟩ := asL_ok R Vr e2
      by_cases hl : ds0.length + es.length ≤ sizeLine
      · rw [if_pos hl] at p
        cases e3 : putO h b n (.lst (ds0 ++ es)) with
        | none => rw [e3] at p; exact p.elim
        | some h' =>
          rw [e3] at p
          obtain ⟨R2, E2⟩ := put_ok R en e0 rfl e3 (u := .lst (ws ++ ws2)) fun H' q => ⟨_, q, r1.append r2⟩
          exact ⟨a, a2, ws, ws2, rfl, rfl, q1, q2, by rw [r1.length, r2.length]; exact hl, p μ F _ E2 R2 _ (show VR ca _ _ _ _ from .non)⟩
      · rw [if_neg hl] at p; exact p.elim
  · exact p.elim
end
end Z
set_option Elab.async false
set_option linter.all false
set_option maxRecDepth 100000
set_option maxHeartbeats 1000000
/-! Z14: more operators and walks; what a printed proof asks of the text. -/
namespace Z
open PySem PySem.Spec L2
section
variable {ca : Cn} {X : Cx} {W : WF} {pos : Pos} {e a b c : Expr}
open Classical in
noncomputable def fRepL : F2 := fun x y h => match asL h x, y with
  | some xs, .int k => if R63 k ∧ xs.length * k.toNat ≤ sizeLine then .ok (.n (.lst (List.replicate k.toNat xs).flatten)) h else .stuck
  | _, _ => .stuck
theorem lk_repL : Lk2 ca fRepL rRep := by
  intro b μ F H h Wx x y c d Q R V1 V2 _ p
  unfold fRepL at p
  split at p
  · rename_i xs k e1
    obtain ⟨a, vs, rfl, q1, r1⟩ := asL_ok R V1 e1
    cases V2
    by_cases hC : R63 k ∧ xs.length * k.toNat ≤ sizeLine
    · rw [if_pos hC] at p
      exact ⟨a, k, vs, rfl, rfl, q1, (R63.of hC.1).1, (R63.of hC.1).2, by rw [r1.length]; exact hC.2, fun l hl => new_lst R (r1.rep _) p hl⟩
    · rw [if_neg hC] at p; exact p.elim
  · exact p.elim
noncomputable def fMulA : F2 := orF fMul fRepL
theorem op_mulA : OpR X (binaryOp .Mult) (fun x y H Q => rI CMul (fun i j => .int (i * j)) x y H Q ∨ rRep x y H Q) := op_mul.or op_rep
theorem lk_mulA : Lk2 ca fMulA (fun x y H Q => rI CMul (fun i j => .int (i * j)) x y H Q ∨ rRep x y H Q) := lk_mul.or lk_repL
/-- is True, is not False .. -/
def fIsB : F2
  | .bl x, .bl y, h => .ok (.v (.bl (decide (x = y)))) h
  | _, _, _ => .stuck
def fNotIsB : F2
  | .bl x, .bl y, h => .ok (.v (.bl (!decide (x = y)))) h
  | _, _, _ => .stuck
theorem op_isB : OpR X (compareOp .Is) rIsB := op_isBl
theorem op_notB : OpR X (compareOp .IsNot) rNotB := op_notBl
theorem lk_isB : Lk2 ca fIsB rIsB := by
  intro b μ F H h Wx x y c d Q R V1 V2 _ p
  cases V1 with
  | bl i =>
    cases V2 with
    | bl j => exact ⟨i, j, rfl, rfl, PostG.ok (a := Z.R.v (.bl (decide (i = j)))) p R _ (VR.bl _)⟩
    | _ => exact (show False from p).elim
  | _ => exact (show False from p).elim
theorem lk_notB : Lk2 ca fNotIsB rNotB := by
  intro b μ F H h Wx x y c d Q R V1 V2 _ p
  cases V1 with
  | bl i =>
    cases V2 with
    | bl j => exact ⟨i, j, rfl, rfl, PostG.ok (a := Z.R.v (.bl (!decide (i = j)))) p R _ (VR.bl _)⟩
    | _ => exact (show False from p).elim
  | _ => exact (show False from p).elim
/-- xs[::-1] -/
def fRevL : F1 := fun d h => match asL h d with
  | some ds => .ok (.n (.lst ds.reverse)) h
  | none => .stuck
theorem se_rev {x : ED} {k : Nat} {p1 p2 p3 : Pos} (hx : SD ca X W e x) : SE ca X W (.Subscript e (.Slice none none (some (.UnaryOp .USub (.Constant (.int 1) k p1) p2)) p3) pos) (Z.e1 fRevL x) :=
  PE.imp (pe_revL hx) (lk_un (r := fun x H1 Q => ∃ a xs, x = .ref a ∧ SqL X.K H1 a xs ∧ ∀ p, H1 p = none → Q (.ref p) (upd H1 p (.lst xs.reverse))) (by
    intro b μ F H h Wx x c Q R V1 _ p
    unfold fRevL at p
    cases e1 : asL h c with
    | none => rw [e1] at p; exact p.elim
    | some ds =>
      rw [e1] at p
      obtain ⟨a, vs, rfl, q, r⟩ := asL_ok R V1 e1
      exact ⟨a, vs, rfl, SqL.of q, fun l hl => new_lst R r.reverse p hl⟩))
/-- range(i, j, -1) -/
def downD (i : Int) (n : Nat) : List D := (List.range n).map fun (k : Nat) => D.int (i + (k : Nat) * (-1))
open Classical in
noncomputable def iR3 (xs : EA) : EI := fun τ h => (xs τ h).bind fun ds h1 => match ds with
  | [.int i, .int j, .int k] => if k = -1 ∧ R62 i ∧ R62 j then .ok (downD i (i - j).toNat, none) h1 else .stuck
  | _ => .stuck
theorem itc_ok {i : Int} {n : Nat} {μ : List Addr} {F H : Hp} {h : Own} : ItOk ca (downD i n) none (Itc i (-1) n) μ F H h := by
  intro b μ2 F2 h2 H2 E R hk j
  have hl : (downD i n).length = n := by simp [downD]
  rw [hl]
  refine ⟨fun hi => ⟨hi, fun x H3 y => ?_⟩, fun hi => hi⟩
  obtain ⟨e, y⟩ := y
  subst e y
  exact ⟨F2, .int (i + j * (-1)), by simp [downD, hi], fun b => Ext.refl, R, .int _⟩
theorem VRs.three {μ : List Addr} {F : Hp} {vs : List V} {d1 d2 d3 : D} (r : VRs ca μ F vs [d1, d2, d3]) : ∃ u v w, vs = [u, v, w] ∧ VR ca μ F u d1 ∧ VR ca μ F v d2 ∧ VR ca μ F w d3 := by
  cases r with
  | cons h t => cases t with
    | cons h2 t => cases t with
      | cons h3 t => cases t; exact ⟨_, _, _, rfl, h, h2, h3⟩
theorem si_r3 {tg : Expr} {xs : EA} (h : PI X tg e (iRng3 (rdA ca W xs))) : SI ca X W tg e (iR3 xs) := PI.imp h fun σ H R ⟨μ, F, τ, h, A, p⟩ => ⟨μ, F, τ, h, A, p.bind.imp fun ds μ1 F1 H1 h1 E1 R1 q vs Vs => by
  split at q
  · rename_i i j k
    obtain ⟨u, v, w, rfl, V1, V2, V3⟩ := Vs.three
    cases V1; cases V2; cases V3
    by_cases hj : k = -1 ∧ R62 i ∧ R62 j
    · rw [if_pos hj] at q
      obtain ⟨rfl, hj1, hj2⟩ := hj
      obtain ⟨h1, h2⟩ := R62.of hj1
      obtain ⟨h3, h4⟩ := R62.of hj2
      exact ⟨i, j, -1, (i - j).toNat, rfl, RgC.neg h1 h2 h3 h4, q.ok R1 (fun n o z => by cases z) _ itc_ok⟩
    · rw [if_neg hj] at q; exact q.elim
  · exact q.elim⟩
/-- enumerate(list) -/
def enD (ds : List D) : List D := ds.zipIdx.map fun p => .tup [.int (p.2 : Nat), p.1]
theorem enD_len (ds : List D) : (enD ds).length = ds.length := by simp [enD]
theorem enD_get {ds : List D} {i : Nat} {d : D} (h : ds[i]? = some d) : (enD ds)[i]? = some (.tup [.int (i : Nat), d]) := by
  simp [enD, List.getElem?_map, List.getElem?_zipIdx, h]
def iEn (xs : EA) : EI := fun τ h => (xs τ h).bind fun ds h1 => match ds with
  | [.lst ds] => .ok (enD ds, none) h1
  | [.ref n] => match h1[n]? with
    | some (.lst ds) => .ok (enD ds, some (n, .lst ds)) h1
    | _ => .stuck
  | _ => .stuck
theorem ite_ok {K : PySem.W.Frag} {ds : List D} {kp : Kp} {a : Addr} {μ : List Addr} {F H : Hp} {h : Own} (hh : ∀ b μ2 F2 h2 H2, Ext b μ F H h μ2 F2 H2 h2 → RelH ca μ2 F2 h2 H2 → kpOk kp h2 → ∃ vs, H2 a = some (.lst vs) ∧ VRs ca μ2 F2 vs ds) : ItOk ca (enD ds) kp (Ite K a) μ F H h := by
  intro b μ2 F2 h2 H2 E R hk i
  obtain ⟨vs, q, r⟩ := hh b μ2 F2 h2 H2 E R hk
  have hl := r.length
  rw [enD_len]
  refine ⟨fun hi => ⟨⟨vs, vs[i]'(by omega), SqL.of q, by rw [List.getElem?_eq_getElem]⟩, fun x H3 y => ?_⟩, fun hi => ⟨vs, SqL.of q, by omega⟩⟩
  obtain ⟨T, x0, rfl, hT, rfl, y⟩ := y
  obtain ⟨d, e1, e2⟩ := r.getV (y vs (SqL.of q))
  obtain ⟨_, R3⟩ := fzNew (b := 0) R hT (.tup [.int (i : Nat), x0])
  exact ⟨_, _, enD_get e1, fun b => (fzNew R hT _).1, R3, .tup upd_same (.cons (.int _) (.cons ((fzNew (b := 0) R hT _).1.vr e2) .nil))⟩
theorem si_en {tg : Expr} {xs : EA} (h : PI X tg e (iEnum X.K (rdA ca W xs))) : SI ca X W tg e (iEn xs) := PI.imp h fun σ H R ⟨μ, F, τ, h, A, p⟩ => ⟨μ, F, τ, h, A, p.bind.imp fun ds μ1 F1 H1 h1 E1 R1 q vs Vs => by
  split at q
  · rename_i ds
    obtain ⟨v, rfl, Vr⟩ := Vs.one
    cases Vr with
    | @lst a vs ds qt r => exact ⟨a, vs, rfl, SqL.of (R1.fz _ _ qt), q.ok R1 (fun n o z => by cases z) _ (ite_ok fun b μ2 F2 h2 H2 E R hk => ⟨vs, R.fz _ _ (E.fz _ _ qt), E.vrs r⟩)⟩
  · rename_i n
    obtain ⟨v, rfl, Vr⟩ := Vs.one
    cases Vr with
    | @ref a n en =>
      split at q
      · rename_i ds e0
        obtain ⟨vs, q1, r1⟩ := R1.ob n _ _ en e0
        exact ⟨a, vs, rfl, SqL.of q1, q.ok R1 (fun m o z => by cases z; exact e0) _ (ite_ok fun b μ2 F2 h2 H2 E R hk => R.ob n a _ (E.ix n a en) (hk n _ rfl))⟩
      · exact q.elim
  · exact q.elim⟩
/-- zip of two lists -/
def zipD (xs ys : List D) : List D := (xs.zip ys).map fun p => .tup [p.1, p.2]
def iZp (xs : EA) : EI := fun τ h => (xs τ h).bind fun ds h1 => match ds with
  | [.lst xs, .lst ys] => .ok (zipD xs ys, none) h1
  | _ => .stuck
theorem si_zp {tg : Expr} {xs : EA} (h : PI X tg e (iZip X.K (rdA ca W xs))) : SI ca X W tg e (iZp xs) := PI.imp h fun σ H R ⟨μ, F, τ, h, A, p⟩ => ⟨μ, F, τ, h, A, p.bind.imp fun ds μ1 F1 H1 h1 E1 R1 q vs Vs => by
  split at q
  · rename_i xs ys
    obtain ⟨v, w, rfl, V1, V2⟩ := Vs.two
    cases V1 with
    | @lst a vs ds qt r =>
    cases V2 with
    | @lst a2 vs2 ds2 qt2 r2 =>
      refine ⟨a, a2, vs, vs2, rfl, SqL.of (R1.fz _ _ qt), SqL.of (R1.fz _ _ qt2), q.ok R1 (fun n o z => by cases z) _ ?_⟩
      intro b μ2 F2 h2 H2 E R hk i
      have q1 := R.fz _ _ (E.fz _ _ qt)
      have q2 := R.fz _ _ (E.fz _ _ qt2)
      have k1 := E.vrs r
      have k2 := E.vrs r2
      have hl : (zipD xs ys).length = min xs.length ys.length := by simp [zipD]
      rw [hl, ← r.length, ← r2.length]
      refine ⟨fun hi => ⟨⟨vs, vs2, vs[i]'(by omega), vs2[i]'(by omega), SqL.of q1, SqL.of q2, by rw [List.getElem?_eq_getElem], by rw [List.getElem?_eq_getElem]⟩, fun x H3 y => ?_⟩, fun hi => ⟨vs, vs2, SqL.of q1, SqL.of q2, by omega⟩⟩
      obtain ⟨T, x0, y0, rfl, hT, rfl, z1, z2⟩ := y
      obtain ⟨d, f1, f2⟩ := k1.getV (z1 vs (SqL.of q1))
      obtain ⟨d', f1', f2'⟩ := k2.getV (z2 vs2 (SqL.of q2))
      obtain ⟨_, R3⟩ := fzNew (b := 0) R hT (.tup [x0, y0])
      refine ⟨_, .tup [d, d'], ?_, fun b => (fzNew R hT _).1, R3, .tup upd_same (.cons ((fzNew (b := 0) R hT _).1.vr f2) (.cons ((fzNew (b := 0) R hT _).1.vr f2') .nil))⟩
      have e3 : (xs.zip ys)[i]? = some (d, d') := List.getElem?_zip_eq_some.mpr ⟨f1, f1'⟩
      simp only [zipD, List.getElem?_map, e3]
      rfl
  · exact q.elim⟩
/-- a, b = x, y -/
def sPar (i j : Nat) (xs : EA) : ST := sE xs fun ds τ h => match ds with
  | [x, y] => .next ((τ.s.set i (some x)).set j (some y)) h
  | _ => .stuck
theorem ss_par {i j : Nat} {x y : Str} {ta : EA} {px py pt : Pos} {kt k2 : Nat} {pt2 : Pos} (hc : X.calm = true) (hN : X.N.Nodup) (hi : X.N[i]? = some x) (hj : X.N[j]? = some y) (hij : i ≠ j)
    (hx : X.env.scope.names.lookup x = some .local) (hy : X.env.scope.names.lookup y = some .local) (ha : SA ca X W [a, b] ta)
    (hw : swappedStores [.Tuple [.Name x px, .Name y py] kt pt] (.Tuple [a, b] k2 pt2) X.env = pure (some [x, y]))
    (hs : swapsWithSole [.Tuple [.Name x px, .Name y py] kt pt] (.Tuple [a, b] k2 pt2) pos.line X.env = pure false) :
    SS ca X W (.Assign [.Tuple [.Name x px, .Name y py] kt pt] (.Tuple [a, b] k2 pt2) pos) (sPar i j ta) := PS.imp (ps_par hc hN hi hj hij hx hy ha hw hs) fun D σ H ⟨μ, F, τ, h, A, p⟩ => ⟨μ, F, τ, h, A, (sE_post A p).imp fun ds μ1 F1 H1 h1 E1 R1 q vs Vs => by
    split at q
    · obtain ⟨v, w, rfl, V1, V2⟩ := Vs.two
      exact ⟨v, w, rfl, q μ1 F1 H1 _ Ext.refl R1 (((E1.sr A.sl).set i V1).set j V2)⟩
    · exact q.elim⟩
end
/-! ### what a printed proof asks of the text -/
structure Df (K : PySem.W.Frag) (mg : Str → Option Value) (x : Str) (st : Stmt) (ps : List Str) (f : Addr) (fd : FuncData) : Prop where
  F : Fun K x x st f fd
  m : mg x = some (.ref f)
  b : Binds K fd ps []
/-- .. called by the name x, which may be another -/
structure Dg (K : PySem.W.Frag) (mg : Str → Option Value) (x x0 : Str) (st : Stmt) (ps : List Str) (f : Addr) (fd : FuncData) : Prop where
  F : Fun K x0 x0 st f fd
  m : mg x = some (.ref f)
  b : Binds K fd ps []
theorem Df.dg {K : PySem.W.Frag} {mg : Str → Option Value} {x : Str} {st : Stmt} {ps : List Str} {f : Addr} {fd : FuncData} (D : Df K mg x st ps f fd) : Dg K mg x x st ps f fd := ⟨D.F, D.m, D.b⟩
structure ClF (ca : Cn) (K : PySem.W.Frag) (c : Nat) (ns : List Str) : Prop where
  cl : Cls K (ca.ad c)
  nm : ca.nm c = ns
  na : ∀ f ∈ ns, NoAttr K (ca.ad c) f
theorem ClF.at {ca : Cn} {K : PySem.W.Frag} {c : Nat} {ns : List Str} {i : Nat} {f : Str} (C : ClF ca K c ns) (nd : ns.Nodup) (e : ns[i]? = some f) : ∀ c' ∈ [c], Cls K (ca.ad c') ∧ NoAttr K (ca.ad c') f ∧ (ca.nm c').Nodup ∧ (ca.nm c')[i]? = some f := fun c' h => by
  have : c' = c := by simpa using h
  subst this
  exact ⟨C.cl, C.na f (List.mem_of_getElem? e), by rw [C.nm]; exact nd, by rw [C.nm]; exact e⟩
structure Mf (K : PySem.W.Frag) (mg : Str → Option Value) (ca : Cn) (x : Str) (c : Nat) (ps : List Str) (C f : Addr) (fd : FuncData) : Prop where
  ad : ca.ad c = C
  mkk : Mk K C f
  m : mg x = some (.ref C)
  b : Binds K fd ps []
theorem stuck_ok {P : Program} {w : World} {K : PySem.W.Frag} {mg : Str → Option Value} {base : Heap} {ca : Cn} {CX : CXT} {k n : Nat} {f : Addr} {fd : FuncData} {ps : List Str} : FnOk P w K mg base CX k f fd ps (spB ca n fun _ _ _ => .stuck) :=
  ⟨fun vs H Q E ⟨_, _, _, _, _, _, _, _, _, p⟩ => p.elim, fun A outer s H args us vs Q E _ _ _ _ ⟨_, _, _, _, _, _, _, _, _, p⟩ => p.elim⟩
theorem tk0 {X : Cx} : Takes X W0 := fun _ _ x => by
  obtain ⟨_, _, _, _, _, _, _, _, _, _, _, _, _, _, _, _, z⟩ := x
  exact z.elim
section
variable {ca : Cn} {X : Cx} {W : WF} {pos : Pos}
theorem se_callN {f : Addr} {fd : FuncData} {ps : List Str} {k n : Nat} {G : BD} {x : Str} {p : Pos} {es : List Expr} {xs : EA} (hn : ps.length = n) (F : FnOk X.prog X.w X.K X.mg X.base (L2.CX X.prog X.w) k f fd ps (spB ca n G)) (hr : Room k X.A) (hg : Gl X x) (hm : X.mg x = some (.ref f))
    (hk : PySem.W.keepIn X.K (.ref f) = true) (hb : Binds X.K fd ps []) (tk : Takes X W) (ha : SA ca X W (e :: es) xs) (hdb : (x == ("__debug__" : Str)) = false) (he : starEach (e :: es) X.env = (false, eval e X.env) :: starEach es X.env)
    (hpl : (backTo pos (starEach es X.env)).any (·.1) = false) : SE ca X W (.Call (.Name x p) (e :: es) [] pos) (eCall n G xs) := by
  subst hn; exact se_call F hr hg hm hk hb tk ha hdb he hpl
theorem se_mkN {C f : Addr} {cn n : Nat} {fd : FuncData} {ps : List Str} {k : Nat} {G : BD} {x : Str} {p : Pos} {es : List Expr} {xs : EA} (hn : ps.length = n) (hC : ca.ad cn = C) (M : Mk X.K C f) (F : FnOk X.prog X.w X.K X.mg X.base (L2.CX X.prog X.w) k f fd ps (spB ca n G)) (hr : Room (k + 1) X.A)
    (hg : Gl X x) (hm : X.mg x = some (.ref C)) (hb : Binds X.K fd ps []) (tk : Takes X W) (ha : SA ca X W (e :: es) xs) (hdb : (x == ("__debug__" : Str)) = false) (he : starEach (e :: es) X.env = (false, eval e X.env) :: starEach es X.env)
    (hpl : (backTo pos (starEach es X.env)).any (·.1) = false) : SE ca X W (.Call (.Name x p) (e :: es) [] pos) (eMk cn n G xs) := by
  subst hn; exact se_mk hC M F hr hg hm hb tk ha hdb he hpl
end
/-! ### list(script), where the script is the law's own list -/
def fListS : FA := fun xs h => match xs with
  | [.ro ns] => .ok (.n (.lst (ns.map .int))) h
  | _ => .stuck
theorem VRs.ofInts {ca : Cn} {μ : List Addr} {F : Hp} : ∀ ns : List Int, VRs ca μ F (ns.map V.int) (ns.map D.int)
  | [] => .nil
  | i :: ns => .cons (.int i) (VRs.ofInts ns)
theorem lk_listS {ca : Cn} {K : PySem.W.Frag} (hro : ∀ a ns H, ca.ro a ns → SqL K H a (ns.map V.int)) : LkA ca fListS (fun xs H Q => ∃ p ys, xs = [.ref p] ∧ (SqL K H p ys ∨ SqT K H p ys) ∧ ∀ l, H l = none → Q (.ref l) (upd H l (.lst ys))) := by
  intro b μ F H h Wx vs ds Q R Vs _ p
  unfold fListS at p
  split at p
  · rename_i ns
    obtain ⟨v, rfl, Vr⟩ := Vs.one
    cases Vr with
    | ro e =>
      rename_i a
      refine ⟨a, _, rfl, .inl ?_, fun l hl => new_lst R (VRs.ofInts ns) p hl⟩
      rcases e with e | e
      · exact .inl (e.imp (fun z => R.fz _ _ z) fun ⟨o, z⟩ => ⟨o, R.fz _ _ z⟩)
      · exact hro _ _ _ e
  · exact p.elim
end Z
set_option Elab.async false
set_option linter.all false
set_option maxRecDepth 100000
/-! Z15: the law's end: how the script comes in. -/
namespace Z
open PySem PySem.Spec L2
def roK (K : PySem.W.Frag) (a : Addr) (ns : List Int) : Prop :=
  ∃ (o : Obj) (its : Array Value) (n : Nat), K.lookup a = some o ∧ o.cls = .type "list" ∧ o.dict = none ∧ o.data = .seq its n ∧ its.size ≤ sizeLine ∧ Vals (ns.map V.int) its.toList
def cnK (cs : List (Str × List Str)) (ts : List (Str × Str)) (P : Program) (w : World) (K : PySem.W.Frag) : Cn :=
  ⟨fun c => match PySem.W.nsIn K mainGlobals (cs.getD c ("", [])).1 with
    | some (some (.ref C)) => C
    | _ => 0, fun c => (cs.getD c ("", [])).2, roK K,
   fun j => match PySem.W.tabIn K (ts.getD j ("", "")).1 with
    | some (_, P) => (P, (ts.getD j ("", "")).2)
    | none => (0, ""), P, w⟩
theorem cnK_ad {cs : List (Str × List Str)} {ts : List (Str × Str)} {P0 : Program} {w : World} {K : PySem.W.Frag} {c : Nat} {x : Str} {C : Addr} (hx : (cs.getD c ("", [])).1 = x) (e : PySem.W.nsIn K mainGlobals x = some (some (.ref C))) : (cnK cs ts P0 w K).ad c = C := by
  show (match PySem.W.nsIn K mainGlobals (cs.getD c ("", [])).1 with
    | some (some (.ref C)) => C
    | _ => 0) = C
  rw [hx, e]
theorem cnK_tb {cs : List (Str × List Str)} {ts : List (Str × Str)} {P0 : Program} {w : World} {K : PySem.W.Frag} {j : Nat} {x q : Str} {c P : Addr} (hx : ts.getD j ("", "") = (x, q)) (e : PySem.W.tabIn K x = some (c, P)) : (cnK cs ts P0 w K).tb j = (P, q) := by
  show (match PySem.W.tabIn K (ts.getD j ("", "")).1 with
    | some (_, P) => (P, (ts.getD j ("", "")).2)
    | none => (0, "")) = (P, q)
  rw [hx, e]
/-- the tables as own things -/
def tabs : Nat → Own
  | 0 => []
  | n + 1 => tabs n ++ [.tb n]
theorem tabs_len : ∀ n, (tabs n).length = n
  | 0 => rfl
  | n + 1 => by rw [tabs, List.length_append, tabs_len n]; rfl
theorem tabs_get : ∀ {n j : Nat} {o : O}, (tabs n)[j]? = some o → o = .tb j
  | 0, j, o, h => by simp [tabs] at h
  | n + 1, j, o, h => by
    rw [tabs] at h
    by_cases hj : j < n
    · rw [List.getElem?_append_left (by rw [tabs_len]; exact hj)] at h
      exact tabs_get h
    · rw [List.getElem?_append_right (by rw [tabs_len]; omega), tabs_len] at h
      have : j = n := by
        have := (List.getElem?_eq_some_iff.mp h).1
        simp at this
        omega
      subst this
      simp at h
      exact h.symm
theorem entry {ca : Cn} {K : PySem.W.Frag} {G : BD} {H : Hp} {a : Addr} {ns : List Int} {cs : List (Addr × Addr)} (hro : ∀ a ns, roK K a ns → ca.ro a ns) (hT : ∀ p ∈ cs, H p.2 = some (.tbl #[])) (nd : (cs.map (·.2)).Nodup)
    (ht : ∀ j p, cs[j]? = some p → (ca.tb j).1 = p.2) (hS : SqL K H a (ns.map V.int))
    (hG : ∃ h, G 0 [.ro ns] (tabs cs.length) = .ret (.v (.bl true)) h) : spB ca 1 G [.ref a] H (fun v _ => v = .bl true) fun _ _ _ => False := by
  obtain ⟨h, e⟩ := hG
  have mt : ∀ b ∈ cs.map (·.2), H b = some (.tbl #[]) := fun b hb => by
    obtain ⟨p, hp, rfl⟩ := List.mem_map.mp hb
    exact hT p hp
  classical
  refine ⟨cs.map (·.2), fun b => if b ∈ cs.map (·.2) then none else H b, tabs cs.length, [.ro ns], 0, ⟨by rw [List.length_map, tabs_len], nd, fun x u z => ?_, fun n b o z _ _ => if_pos (List.mem_of_getElem? z), fun b hb => by rw [mt b hb]; simp, fun n b o z z2 => ?_⟩, .cons (.ro ?_) .nil, rfl, Nat.zero_le _, ?_⟩
  · split at z
    · cases z
    · exact z
  · rw [tabs_get z2]
    rw [List.getElem?_map] at z
    cases ep : cs[n]? with
    | none => rw [ep] at z; cases z
    | some p =>
      rw [ep] at z
      cases z
      refine ⟨(ht n p ep).symm, #[], hT p (List.mem_of_getElem? ep), True.intro, fun pos cv hc => ?_⟩
      have z : codeAmong pos [] = some cv := hc
      simp [codeAmong] at z
  · rcases hS with q | q
    · refine .inl ?_
      have na : a ∉ cs.map (·.2) := fun z => by
        have e1 := mt a z
        rcases q with q | ⟨o, q⟩
        · rw [e1] at q; cases q
        · rw [e1] at q; cases q
      rcases q with q | ⟨o, q⟩
      · exact .inl ((if_neg na).trans q)
      · exact .inr ⟨o, (if_neg na).trans q⟩
    · exact .inr (hro _ _ q)
  · rw [e]
    intro μ1 F1 H1 v E R V1
    have V2 : VR ca μ1 F1 v (.bl true) := V1
    cases V2
    rfl
theorem cx_end {P : Program} {w : World} {H : Hp} {s : Shared} {e : Value} {s' : Shared} (h : L2.CX P w [] H s (fun _ _ _ => False) e s') : False := by
  obtain ⟨_, _, _, _, _, _, _, _, _, _, _, _, z⟩ := h
  exact z
end Z
set_option Elab.async false
set_option linter.all false
set_option maxRecDepth 100000
/-! Z16: to compute with the own semantics: rules for simp, loops. -/
namespace Z
open PySem PySem.Spec L2
/-! ### statements and what they leave -/
def W (x : SRes) (Q : SRes → Prop) : Prop := Q x
def Th (b : ST) (k : Nat) (Q : SRes → Prop) : SRes → Prop := fun r => match r with
  | .next s h => W (b ⟨k, s⟩ h) Q
  | r => Q r
section
variable {a b : ST} {t : EB} {τ : Fm} {h : Own} {Q : SRes → Prop} {k : Nat} {s : Sl}
@[simp] theorem W_seq : W (sSeq a b τ h) Q = W (a τ h) (Th b τ.b Q) := by
  unfold W sSeq
  cases a τ h <;> rfl
@[simp] theorem W_th_next : W (.next s h) (Th b k Q) = W (b ⟨k, s⟩ h) Q := rfl
@[simp] theorem W_th_ret {r : R} : W (.ret r h) (Th b k Q) = W (.ret r h) Q := rfl
@[simp] theorem W_th_brk : W (.brk s h) (Th b k Q) = W (.brk s h) Q := rfl
@[simp] theorem W_th_cnt : W (.cnt s h) (Th b k Q) = W (.cnt s h) Q := rfl
@[simp] theorem W_th_stuck : W .stuck (Th b k Q) = W .stuck Q := rfl
@[simp] theorem sPass_eq : sPass τ h = .next τ.s h := rfl
@[simp] theorem sBrk_eq : sBrk τ h = .brk τ.s h := rfl
@[simp] theorem sCnt_eq : sCnt τ h = .cnt τ.s h := rfl
@[simp] theorem sNever_eq : sNever τ h = .stuck := rfl
@[simp] theorem sIf_eq : sIf t a b τ h = sE t (fun k τ h => if k = true then a τ h else b τ h) τ h := rfl
@[simp] theorem sE_eq {α : Type} {x : Fm → Own → Res α} {f : α → Fm → Own → SRes} : sE x f τ h = (match x τ h with
  | .ok a h1 => f a τ h1
  | .exc c h1 => .exc c τ.s h1
  | .stuck => .stuck) := rfl
@[simp] theorem sX_eq {x : ED} : sX x τ h = sE x (fun _ τ h => .next τ.s h) τ h := rfl
@[simp] theorem sRet_eq {x : EX} : sRet x τ h = sE x (fun r _ h => .ret r h) τ h := rfl
@[simp] theorem sRetN_eq : sRetN τ h = .ret (.v .non) h := rfl
@[simp] theorem sSet_eq {i : Nat} {x : ED} : sSet i x τ h = sE x (fun d τ h => .next (τ.s.set i (some d)) h) τ h := rfl
@[simp] theorem sA_eq {x : ED} {g : ET} : sA x g τ h = sE x (fun d τ h => match g d τ h with
  | .next s h1 => .next s h1
  | _ => .stuck) τ h := rfl
end
section
variable {τ : Fm} {h h1 : Own} {d x y : D}
@[simp] theorem eVar_eq {i b : Nat} {s : Sl} : eVar i ⟨b, s⟩ h = (match s[i]? with
  | some (some d) => .ok d h
  | _ => .stuck) := rfl
@[simp] theorem eC_eq : eC d τ h = .ok d h := rfl
@[simp] theorem e2_eq {f : F2} {a b : ED} : e2 f a b τ h = (a τ h).bind fun x h1 => (b τ h1).bind fun y h2 => f x y h2 := rfl
@[simp] theorem e1_eq {f : F1} {a : ED} : Z.e1 f a τ h = (a τ h).bind fun x h1 => f x h1 := rfl
@[simp] theorem ed_eq {x : EX} : ed x τ h = (x τ h).bind fun r h1 => match r with
  | .v d => .ok d h1
  | .n o => match frzO o with
    | some d => .ok d h1
    | none => .stuck := rfl
@[simp] theorem ev_eq {x : ED} : ev x τ h = (x τ h).bind fun d h1 => .ok (.v d) h1 := rfl
@[simp] theorem eAl_eq {x : EX} : eAl x τ h = (x τ h).bind fun r h1 => match r with
  | .v d => .ok d h1
  | .n o => .ok (.ref h1.length) (h1 ++ [o]) := rfl
@[simp] theorem eFz_eq {x : ED} : eFz x τ h = (x τ h).bind fun d h1 => fzr τ.b d h1 := rfl
@[simp] theorem fzr_eq {b m : Nat} : fzr b (.ref m) h = if b ≤ m then match h[m]? with
    | some o => match frzO o with
      | some d => .ok d (h.set m .dead)
      | none => .stuck
    | none => .stuck else .stuck := rfl
@[simp] theorem aNil_eq : aNil τ h = .ok [] h := rfl
@[simp] theorem aCons_eq {x : ED} {xs : EA} : aCons x xs τ h = (x τ h).bind fun d h1 => (xs τ h1).bind fun ds h2 => .ok (d :: ds) h2 := rfl
@[simp] theorem eTup_eq {xs : EA} : eTup xs τ h = (xs τ h).bind fun ds h1 => if ds.length ≤ sizeLine then .ok (.tup ds) h1 else .stuck := rfl
@[simp] theorem eLst_eq {xs : EA} : eLst xs τ h = (xs τ h).bind fun ds h1 => if ds.length ≤ sizeLine then .ok (.n (.lst ds)) h1 else .stuck := rfl
@[simp] theorem eA_eq {f : FA} {xs : EA} : eA f xs τ h = (xs τ h).bind fun ds h1 => f ds h1 := rfl
@[simp] theorem eCall_eq {n : Nat} {G : BD} {xs : EA} : eCall n G xs τ h = (xs τ h).bind fun ds h1 => if ds.length = n then callB G ds h1 else .stuck := rfl
@[simp] theorem eM_eq {T : String} {f : FM} {x : ED} {xs : EA} : eM T f x xs τ h = (x τ h).bind fun d h1 => if isTy T h1 d = true then (xs τ h1).bind fun ds h2 => f d ds τ.b h2 else .stuck := rfl
@[simp] theorem eTB_eq {x : EX} : eTB x τ h = (x τ h).bind fun r h1 => match r with
  | .v (.bl k) => .ok k h1
  | _ => .stuck := rfl
@[simp] theorem eT_eq {x : ED} : eT x τ h = (x τ h).bind fun d h1 => match tru h1 d with
  | some k => .ok k h1
  | none => .stuck := rfl
@[simp] theorem bAnd_eq {a b : EB} : bAnd a b τ h = (a τ h).bind fun k h1 => if k = true then b τ h1 else .ok false h1 := rfl
@[simp] theorem bOr_eq {a b : EB} : bOr a b τ h = (a τ h).bind fun k h1 => if k = true then .ok true h1 else b τ h1 := rfl
@[simp] theorem bNot_eq {a : EB} : bNot a τ h = (a τ h).bind fun k h1 => .ok (!k) h1 := rfl
@[simp] theorem bYes_eq : bYes τ h = .ok true h := rfl
@[simp] theorem vAnd_eq {a b : ED} : vAnd a b τ h = (a τ h).bind fun x h1 => match x with
  | .bl true => b τ h1
  | .bl false => .ok (.bl false) h1
  | _ => .stuck := rfl
@[simp] theorem vOr_eq {a b : ED} : vOr a b τ h = (a τ h).bind fun x h1 => match x with
  | .bl false => b τ h1
  | .bl true => .ok (.bl true) h1
  | _ => .stuck := rfl
@[simp] theorem eIf_eq {t : EB} {a b : EX} : eIf t a b τ h = (t τ h).bind fun k h1 => if k = true then a τ h1 else b τ h1 := rfl
@[simp] theorem eCh_eq {f g : F2} {a b c : ED} : eCh f g a b c τ h = (a τ h).bind fun x h1 => (b τ h1).bind fun y h2 => (f x y h2).bind fun r h3 => match r with
  | .v (.bl true) => (c τ h3).bind fun z h4 => g y z h4
  | .v (.bl false) => .ok (.v (.bl false)) h3
  | _ => .stuck := by
  unfold eCh
  rfl
@[simp] theorem eIsI_eq {T : String} {x : ED} : eIsI T x τ h = (x τ h).bind fun d h1 => match tyD h1 d with
  | some t => match kitB t T with
    | some k => .ok (.bl k) h1
    | none => .stuck
  | none => .stuck := rfl
@[simp] theorem oNone_eq : oNone τ h = .ok none h := rfl
@[simp] theorem oSome_eq {x : ED} : oSome x τ h = (x τ h).bind fun d h1 => match d with
  | .int i => .ok (some i) h1
  | _ => .stuck := by
  unfold oSome
  rfl
@[simp] theorem eSl_eq {x : ED} {lo hi : EO} : eSl x lo hi τ h = (x τ h).bind fun d h1 => (lo τ h1).bind fun l h2 => (hi τ h2).bind fun u h3 => fSl d l u h3 := rfl
@[simp] theorem tN_eq {i : Nat} : tN i d τ h = .next (τ.s.set i (some d)) h := rfl
/-! operators at ints -/
@[simp] theorem fSub_ii {i j : Int} : fSub (.int i) (.int j) h = .ok (.v (.int (i - j))) h := rfl
@[simp] theorem f1_ii {i j : Int} : f1 (.int i) (.int j) h = .ok (.v (.int (i + j))) h := rfl
@[simp] theorem fAdd_ii {i j : Int} : fAdd (.int i) (.int j) h = .ok (.v (.int (i + j))) h := rfl
@[simp] theorem fAdd_tt {ds es : List D} : fAdd (.tup ds) (.tup es) h = if ds.length + es.length ≤ sizeLine then .ok (.v (.tup (ds ++ es))) h else .stuck := by
  show (match fAddT (.tup ds) (.tup es) h with | .stuck => (orF fAddS fAddL) (.tup ds) (.tup es) h | z => z) = _
  unfold fAddT
  dsimp only
  by_cases q : ds.length + es.length ≤ sizeLine
  · rw [if_pos q]
  · rw [if_neg q]
    dsimp only
    rfl
@[simp] theorem fMod_ii {i j : Int} : fMod (.int i) (.int j) h = if 0 < j then .ok (.v (.int (i % j))) h else .stuck := by simp [fMod, fIc]
@[simp] theorem fDiv_ii {i j : Int} : fDiv (.int i) (.int j) h = if 0 < j ∧ j < 1073741824 then .ok (.v (.int (i / j))) h else .stuck := by simp [fDiv, fIc]
@[simp] theorem fShl_ii {i j : Int} : fShl (.int i) (.int j) h = if 0 ≤ j ∧ j ≤ 1000000 ∧ i.natAbs < 2 ^ 64 then .ok (.v (.int (i * 2 ^ j.toNat))) h else .stuck := by simp [fShl, fIc, and_assoc]
@[simp] theorem fPow_ii {i j : Int} : fPow (.int i) (.int j) h = if 0 ≤ j ∧ j ≤ 1000000 ∧ i.natAbs < 2 ^ 64 then .ok (.v (.int (i ^ j.toNat))) h else .stuck := by simp [fPow, fIc, and_assoc]
@[simp] theorem fShr_ii {i j : Int} : fShr (.int i) (.int j) h = if 0 ≤ j then .ok (.v (.int (i / 2 ^ j.toNat))) h else .stuck := by simp [fShr, fIc]
@[simp] theorem fAnd_ii {i j : Int} : fAnd (.int i) (.int j) h = .ok (.v (.int (Builtin.bitAnd i j))) h := rfl
@[simp] theorem fOr_ii {i j : Int} : fOr (.int i) (.int j) h = .ok (.v (.int (Builtin.bitOr i j))) h := rfl
@[simp] theorem fLt_ii {i j : Int} : fLt (.int i) (.int j) h = .ok (.v (.bl (decide (i < j)))) h := rfl
@[simp] theorem fLe_ii {i j : Int} : fLe (.int i) (.int j) h = .ok (.v (.bl (decide (i ≤ j)))) h := rfl
@[simp] theorem fGt_ii {i j : Int} : fGt (.int i) (.int j) h = .ok (.v (.bl (decide (j < i)))) h := rfl
@[simp] theorem fGe_ii {i j : Int} : fGe (.int i) (.int j) h = .ok (.v (.bl (decide (j ≤ i)))) h := rfl
@[simp] theorem fEq_ii {i j : Int} : fEq (.int i) (.int j) h = .ok (.v (.bl (decide (i = j)))) h := by
  show Res.ok (R.v (.bl (PyData.eqv (.int i) (.int j)))) h = _
  simp [PyData.eqv]
  rfl
@[simp] theorem fNe_ii {i j : Int} : fNe (.int i) (.int j) h = .ok (.v (.bl (!decide (i = j)))) h := by
  show Res.ok (R.v (.bl (!PyData.eqv (.int i) (.int j)))) h = _
  simp [PyData.eqv]
  rfl
@[simp] theorem fNeg_i {i : Int} : fNeg (.int i) h = .ok (.v (.int (-i))) h := rfl
@[simp] theorem fNotB_b {k : Bool} : fNotB (.bl k) h = .ok (.v (.bl (!k))) h := rfl
@[simp] theorem fIsN_eq {k : Bool} : fIsN k d h = .ok (.v (.bl (if k then !isN d else isN d))) h := rfl
@[simp] theorem fFld_obj {cs : List Nat} {i c : Nat} {fs : List D} : fFld cs i (.obj c fs) h = if c ∈ cs then (match fs[i]? with | some d => .ok (.v d) h | none => .stuck) else .stuck := rfl
@[simp] theorem fInt_i {i : Int} : fInt [.int i] h = .ok (.v (.int i)) h := rfl
@[simp] theorem tru_bl {k : Bool} : tru h (.bl k) = some k := rfl
@[simp] theorem tru_int {i : Int} : tru h (.int i) = some (i != 0) := rfl
@[simp] theorem tru_tup {ds : List D} : tru h (.tup ds) = some (!ds.isEmpty) := rfl
@[simp] theorem tru_lst {ds : List D} : tru h (.lst ds) = some (!ds.isEmpty) := rfl
/-! sequences -/
@[simp] theorem asQ_tup {ds : List D} : asQ h (.tup ds) = some ds := rfl
@[simp] theorem asQ_lst {ds : List D} : asQ h (.lst ds) = some ds := rfl
@[simp] theorem asL_lst {ds : List D} : asL h (.lst ds) = some ds := rfl
theorem asQ_ref {n : Nat} {ds : List D} (e : h[n]? = some (.lst ds)) : asQ h (.ref n) = some ds := by unfold asQ asL; simp [e]
theorem asL_ref {n : Nat} {ds : List D} (e : h[n]? = some (.lst ds)) : asL h (.ref n) = some ds := by unfold asL; simp [e]
@[simp] theorem frzO_lst {ds : List D} : frzO (.lst ds) = some (.lst ds) := rfl
@[simp] theorem frzO_dK {ds : List (Key × D)} : frzO (.dK ds) = some (.dK ds) := rfl
theorem fLen_q {ds : List D} (e : asQ h d = some ds) : fLen [d] h = .ok (.v (.int ds.length)) h := by unfold fLen; simp [e]
@[simp] theorem fLen_tup {ds : List D} : fLen [.tup ds] h = .ok (.v (.int ds.length)) h := rfl
@[simp] theorem fLen_lst {ds : List D} : fLen [.lst ds] h = .ok (.v (.int ds.length)) h := rfl
theorem fTuple_q {ds : List D} (e : asQ h d = some ds) : fTuple [d] h = .ok (.v (.tup ds)) h := by unfold fTuple; simp [e]
@[simp] theorem fTuple_tup {ds : List D} : fTuple [.tup ds] h = .ok (.v (.tup ds)) h := rfl
@[simp] theorem fTuple_lst {ds : List D} : fTuple [.lst ds] h = .ok (.v (.tup ds)) h := rfl
theorem fList_q {ds : List D} (e : asQ h d = some ds) : fList [d] h = .ok (.n (.lst ds)) h := by unfold fList; simp [e]
@[simp] theorem fList_tup {ds : List D} : fList [.tup ds] h = .ok (.n (.lst ds)) h := rfl
@[simp] theorem fList_lst {ds : List D} : fList [.lst ds] h = .ok (.n (.lst ds)) h := rfl
theorem atI_nat {α : Type} {xs : List α} {k : Nat} {i : Int} (hi : i = (k : Int)) : atI xs i = xs[k]? := by
  subst hi
  unfold atI ixN
  by_cases q : (k : Int) < xs.length
  · simp [q]
  · simp [q]
    omega
theorem fIx_q {ds : List D} {i : Int} {k : Nat} {r : D} (e : asQ h d = some ds) (hi : i = (k : Int)) (hk : ds[k]? = some r) : fIx d (.int i) h = .ok (.v r) h := by
  show (match fIxQ d (.int i) h with | .stuck => _ | z => z) = _
  unfold fIxQ
  simp [e, atI_nat hi, hk]
theorem fIn_q {ds : List D} (e : asQ h y = some ds) (f1 : flatD x = true) (f2 : ds.all flatD = true) : fIn x y h = .ok (.v (.bl (ds.any fun z => eqD z x))) h := by
  show (match fInQ false x y h with | .stuck => _ | z => z) = _
  unfold fInQ
  simp [e, f1]
  rw [if_pos (by simpa using f2)]
theorem fNotIn_q {ds : List D} (e : asQ h y = some ds) (f1 : flatD x = true) (f2 : ds.all flatD = true) : fNotIn x y h = .ok (.v (.bl (!(ds.any fun z => eqD z x)))) h := by
  show (match fInQ true x y h with | .stuck => _ | z => z) = _
  unfold fInQ
  simp [e, f1]
  rw [if_pos (by simpa using f2)]
/-! iteration -/
@[simp] theorem kpOk_none : kpOk none h = True := by simp [kpOk]
@[simp] theorem iSeq_eq {x : ED} : iSeq x τ h = (x τ h).bind fun d h1 => match d with
  | .tup ds => .ok (ds, none) h1
  | .lst ds => .ok (ds, none) h1
  | .ref n => match h1[n]? with
    | some (.lst ds) => .ok (ds, some (n, .lst ds)) h1
    | _ => .stuck
  | _ => .stuck := by
  unfold iSeq
  rfl
open Classical in
@[simp] theorem iR1_eq {xs : EA} : iR1 xs τ h = (xs τ h).bind fun ds h1 => match ds with
  | [.int j] => if R62 j then .ok (rngD 0 j.toNat, none) h1 else .stuck
  | _ => .stuck := by
  unfold iR1
  rfl
open Classical in
@[simp] theorem iR2_eq {xs : EA} : iR2 xs τ h = (xs τ h).bind fun ds h1 => match ds with
  | [.int i, .int j] => if R62 i ∧ R62 j then .ok (rngD i (j - i).toNat, none) h1 else .stuck
  | _ => .stuck := by
  unfold iR2
  rfl
open Classical in
@[simp] theorem iR3_eq {xs : EA} : iR3 xs τ h = (xs τ h).bind fun ds h1 => match ds with
  | [.int i, .int j, .int k] => if k = -1 ∧ R62 i ∧ R62 j then .ok (downD i (i - j).toNat, none) h1 else .stuck
  | _ => .stuck := by
  unfold iR3
  rfl
@[simp] theorem sFor_eq {it : EI} {g : ET} {bd : ST} {cl : List Nat} : sFor it g bd cl τ h = sE it (fun p τ h => forGo p.2 g bd cl τ.b p.1 τ.s h) τ h := rfl
@[simp] theorem eComp_eq {it : EI} {g : ET} {t : EB} {x : ED} {vs : List Nat} : eComp it g t x vs τ h = (it τ h).bind fun p h1 => compGo p.2 g t x τ.b (Z.clr vs τ.s) p.1 h1 [] := rfl
@[simp] theorem sWh_eq {t : EB} {bd : ST} {cl : List Nat} : sWh t bd cl τ h = whGo t bd cl τ.b wMax τ.s h := rfl
end
/-! ### loops -/
/-- one turn's end -/
def Turn (cl : List Nat) (I : Sl → Own → Prop) (Q : SRes → Prop) : SRes → Prop := fun r => match r with
  | .next s h => I (clr cl s) h
  | .cnt s h => I (clr cl s) h
  | .brk s h => Q (.next (clr cl s) h)
  | .ret r h => Q (.ret r h)
  | _ => False
section
variable {cl : List Nat} {I : Sl → Own → Prop} {Q : SRes → Prop} {s : Sl} {h : Own}
@[simp] theorem W_turn_next : W (.next s h) (Turn cl I Q) = I (clr cl s) h := rfl
@[simp] theorem W_turn_cnt : W (.cnt s h) (Turn cl I Q) = I (clr cl s) h := rfl
@[simp] theorem W_turn_brk : W (.brk s h) (Turn cl I Q) = W (.next (clr cl s) h) Q := rfl
@[simp] theorem W_turn_ret {r : R} : W (.ret r h) (Turn cl I Q) = W (.ret r h) Q := rfl
@[simp] theorem W_stuck_turn : W .stuck (Turn cl I Q) = False := rfl
end
/-- a for by an invariant over what is still to come -/
theorem W_for {kp : Kp} {g : ET} {bd : ST} {cl : List Nat} {b : Nat} {Q : SRes → Prop} (I : List D → Sl → Own → Prop) (hk : ∀ ds s h, I ds s h → kpOk kp h) (he : ∀ s h, I [] s h → Q (.next s h))
    (hs : ∀ d ds s h, I (d :: ds) s h → ∃ s1 h1, g d ⟨b, s⟩ h = .next s1 h1 ∧ W (bd ⟨b, s1⟩ h1) (Turn cl (I ds) Q)) : ∀ (ds : List D) (s : Sl) (h : Own), I ds s h → W (forGo kp g bd cl b ds s h) Q
  | [], s, h, i => by
    unfold forGo
    rw [if_pos (hk _ _ _ i)]
    exact he s h i
  | d :: ds, s, h, i => by
    unfold forGo
    rw [if_pos (hk _ _ _ i)]
    obtain ⟨s1, h1, e, w⟩ := hs d ds s h i
    rw [e]
    dsimp only
    unfold W at w
    cases hb : bd ⟨b, s1⟩ h1 with
    | next s2 h2 => rw [hb] at w; exact W_for I hk he hs ds _ _ w
    | cnt s2 h2 => rw [hb] at w; exact W_for I hk he hs ds _ _ w
    | brk s2 h2 => rw [hb] at w; exact w
    | ret r h2 => rw [hb] at w; exact w
    | exc c s2 h2 => rw [hb] at w; exact w.elim
    | stuck => rw [hb] at w; exact w.elim
/-- a while by an invariant and a measure -/
theorem W_wh {t : EB} {bd : ST} {cl : List Nat} {b : Nat} {Q : SRes → Prop} (I : Nat → Sl → Own → Prop)
    (hs : ∀ m s h, I m s h → ∃ k h1, t ⟨b, s⟩ h = .ok k h1 ∧ (k = false → Q (.next s h1)) ∧ (k = true → ∃ m', m = m' + 1 ∧ W (bd ⟨b, s⟩ h1) (Turn cl (fun s h => ∃ m'', m'' ≤ m' ∧ I m'' s h) Q))) : ∀ (n m : Nat) (s : Sl) (h : Own), m < n → I m s h → W (whGo t bd cl b n s h) Q
  | 0, m, s, h, hn, i => absurd hn (Nat.not_lt_zero _)
  | n + 1, m, s, h, hn, i => by
    unfold whGo
    obtain ⟨k, h1, e, ef, et⟩ := hs m s h i
    rw [e]
    cases k with
    | false => exact ef rfl
    | true =>
      obtain ⟨m', rfl, w⟩ := et rfl
      dsimp only
      unfold W at w
      cases hb : bd ⟨b, s⟩ h1 with
      | next s2 h2 => rw [hb] at w; obtain ⟨m'', hm, w⟩ := w; exact W_wh I hs n m'' _ _ (by omega) w
      | cnt s2 h2 => rw [hb] at w; obtain ⟨m'', hm, w⟩ := w; exact W_wh I hs n m'' _ _ (by omega) w
      | brk s2 h2 => rw [hb] at w; exact w
      | ret r h2 => rw [hb] at w; exact w
      | exc c s2 h2 => rw [hb] at w; exact w.elim
      | stuck => rw [hb] at w; exact w.elim
/-- a comprehension without traces -/
theorem comp_pure {α : Type} {kp : Kp} {g : ET} {t : EB} {x : ED} {b : Nat} {s : Sl} {h : Own} (item : α → D) (p : α → Bool) (el : α → D) (hk : kpOk kp h) : ∀ (as : List α) (acc : List D),
    (∀ a ∈ as, ∃ s1, g (item a) ⟨b, s⟩ h = .next s1 h ∧ t ⟨b, s1⟩ h = .ok (p a) h ∧ (p a = true → x ⟨b, s1⟩ h = .ok (el a) h)) → acc.length + as.length ≤ sizeLine →
    compGo kp g t x b s (as.map item) h acc = .ok (.n (.lst (acc ++ (as.filter p).map el))) h
  | [], acc, _, _ => by
    unfold compGo
    simp [hk]
  | a :: as, acc, hs, hl => by
    obtain ⟨s1, e1, e2, e3⟩ := hs a (List.mem_cons_self)
    rw [List.length_cons] at hl
    unfold compGo
    simp only [List.map_cons]
    rw [if_pos hk, e1]
    dsimp only
    rw [e2]
    cases hp : p a with
    | false =>
      dsimp only
      rw [comp_pure item p el hk as acc (fun y hy => hs y (List.mem_cons_of_mem _ hy)) (by omega), List.filter_cons_of_neg (by simp [hp])]
    | true =>
      dsimp only
      rw [e3 hp]
      dsimp only
      rw [if_pos (by omega), comp_pure item p el hk as (acc ++ [el a]) (fun y hy => hs y (List.mem_cons_of_mem _ hy)) (by simp; omega), List.filter_cons_of_pos hp]
      simp
/-! ### the end of a call -/
theorem call_v {G : BD} {ds : List D} {h : Own} {d : D} (nd : nrf d = true) (e : W (G h.length ds h) fun r => ∃ h1, r = .ret (.v d) h1 ∧ h1.take h.length = h) : callB G ds h = .ok (.v d) h := by
  obtain ⟨h1, e, e2⟩ := e
  unfold callB
  rw [e]
  show exitR h.length (.v d) h1 = _
  unfold exitR
  cases d <;> first | (cases nd; done) | (dsimp only; rw [if_pos nd, e2])
theorem call_n {G : BD} {ds : List D} {h : Own} {o : O} (nd : nrfO o = true) (e : W (G h.length ds h) fun r => ∃ h1, r = .ret (.n o) h1 ∧ h1.take h.length = h) : callB G ds h = .ok (.n o) h := by
  obtain ⟨h1, e, e2⟩ := e
  unfold callB
  rw [e]
  show exitR h.length (.n o) h1 = _
  unfold exitR
  dsimp only
  rw [if_pos nd, e2]
theorem call_r {G : BD} {ds : List D} {h : Own} {o : O} (nd : nrfO o = true) (nd2 : notDead o = true) (e : W (G h.length ds h) fun r => ∃ h1 m, r = .ret (.v (.ref m)) h1 ∧ h.length ≤ m ∧ h1[m]? = some o ∧ h1.take h.length = h) : callB G ds h = .ok (.n o) h := by
  obtain ⟨h1, m, e, hm, e2, e3⟩ := e
  unfold callB
  rw [e]
  show exitR h.length (.v (.ref m)) h1 = _
  unfold exitR
  dsimp only
  rw [if_neg (by omega), e2]
  dsimp only
  rw [if_pos ⟨nd, nd2⟩, e3]
end Z
set_option Elab.async false
set_option linter.all false
set_option maxRecDepth 100000
/-! Z17: heaps by places; loops as equations; bits. -/
namespace Z
open PySem PySem.Spec L2
section
variable {h l H : Own} {o : O} {n k b : Nat} {ds : List D} {x : D}
@[simp] theorem hp_get0 : (h ++ l)[List.length h]? = l[0]? := by
  rw [List.getElem?_append_right (Nat.le_refl _), Nat.sub_self]
@[simp] theorem hp_getk : (h ++ l)[List.length h + k]? = l[k]? := by
  rw [List.getElem?_append_right (Nat.le_add_right _ _), Nat.add_sub_cancel_left]
@[simp] theorem hp_set0 : (h ++ l).set h.length o = h ++ l.set 0 o := by
  rw [List.set_append, if_neg (Nat.lt_irrefl _), Nat.sub_self]
@[simp] theorem hp_setk : (h ++ l).set (h.length + k) o = h ++ l.set k o := by
  rw [List.set_append, if_neg (by omega), Nat.add_sub_cancel_left]
theorem hp_getl (hn : n < h.length) : (h ++ l)[n]? = h[n]? := List.getElem?_append_left hn
theorem hp_setl (hn : n < h.length) : (h ++ l).set n o = h.set n o ++ l := by
  rw [List.set_append, if_pos hn]
@[simp] theorem isTy_ref {T : String} : isTy T H (.ref n) = (match H[n]? with
    | some (.lst _) => T == "list"
    | some (.dK _) => T == "dict"
    | _ => false) := rfl
@[simp] theorem isTy_lst {T : String} : isTy T H (.lst ds) = (T == "list") := rfl
@[simp] theorem fAppend_eq : fAppend (.ref n) [x] b H = (match H[n]? with
    | some (.lst ds) => if ds.length < sizeLine then (match putO H b n (.lst (ds ++ [x])) with | some h' => .ok (.v .non) h' | none => .stuck) else .stuck
    | _ => .stuck) := by
  unfold fAppend chL ownL
  cases e : H[n]? with
  | none => simp [e]
  | some o =>
    cases o <;> simp only [e]
    rename_i ds
    by_cases q : ds.length < sizeLine
    · rw [if_pos q, if_pos q]
      try rfl
    · rw [if_neg q, if_neg q]
theorem putO_own (hb : b ≤ n) : putO H b n o = some (H.set n o) := by
  unfold putO
  rw [if_pos (.inl hb)]
theorem putO_nrf (hb : nrfO o = true) : putO H b n o = some (H.set n o) := by
  unfold putO
  rw [if_pos (.inr (.inl hb))]
/-- no ref comes in that was not there -/
theorem putO_sub {o0 : O} (e : H[n]? = some o0) (hb : subR o o0 = true) : putO H b n o = some (H.set n o) := by
  unfold putO
  rw [if_pos (.inr (.inr (by unfold subO; rw [e]; exact hb)))]
@[simp] theorem putO_len : putO H h.length h.length o = some (H.set h.length o) := putO_own (Nat.le_refl _)
@[simp] theorem putO_lenk : putO H h.length (h.length + k) o = some (H.set (h.length + k) o) := putO_own (Nat.le_add_right _ _)
@[simp] theorem asQ_ref' : asQ H (.ref n) = (match H[n]? with
    | some (.lst ds) => some ds
    | _ => none) := rfl
@[simp] theorem asL_ref' : asL H (.ref n) = (match H[n]? with
    | some (.lst ds) => some ds
    | _ => none) := rfl
@[simp] theorem fTuple_ref : fTuple [.ref n] H = (match H[n]? with
    | some (.lst ds) => .ok (.v (.tup ds)) H
    | _ => .stuck) := by
  unfold fTuple asQ asL
  dsimp only
  cases H[n]? with
  | none => rfl
  | some o => cases o <;> rfl
@[simp] theorem fList_ref : fList [.ref n] H = (match H[n]? with
    | some (.lst ds) => .ok (.n (.lst ds)) H
    | _ => .stuck) := by
  unfold fList asQ asL
  dsimp only
  cases H[n]? with
  | none => rfl
  | some o => cases o <;> rfl
@[simp] theorem fLen_ref : fLen [.ref n] H = (match H[n]? with
    | some (.lst ds) => .ok (.v (.int ds.length)) H
    | some (.dK ds) => .ok (.v (.int ds.length)) H
    | some (.lkK ds) => .ok (.v (.int ds.length)) H
    | _ => .stuck) := by
  unfold fLen asQ asL asD
  dsimp only
  cases e : H[n]? with
  | none => simp [e]
  | some o => cases o <;> simp [e]
theorem ixN_nat {n k : Nat} (hlt : k < n) : ixN n (k : Int) = some k := by
  unfold ixN
  rw [if_pos (Int.natCast_nonneg k), if_pos (Int.ofNat_lt.mpr hlt), Int.toNat_natCast]
theorem chL_eq {f : List D → List D → Option (List D × D)} {xs ds' : List D} {r : D} (e : H[n]? = some (.lst ds)) (ef : f ds xs = some (ds', r)) (hp : b ≤ n ∨ nrfO (.lst ds') = true) : chL f (.ref n) xs b H = .ok (.v r) (H.set n (.lst ds')) := by
  unfold chL ownL
  simp only [e, ef]
  unfold putO
  rw [if_pos (hp.imp id .inl)]
open Classical in
theorem fPopAt_eq {i : Int} {k : Nat} {y : D} (e : H[n]? = some (.lst ds)) (hi : i = (k : Int)) (hk : k < 1000000) (hy : ds[k]? = some y) (hp : b ≤ n ∨ nrfO (.lst (ds.eraseIdx k)) = true) :
    fPopAt (.ref n) [.int i] b H = .ok (.v y) (H.set n (.lst (ds.eraseIdx k))) := by
  subst hi
  unfold fPopAt
  refine chL_eq e ?_ hp
  have h1 := ixN_nat (List.getElem?_eq_some_iff.mp hy).1
  have h2 := r63 (Nat.le_of_lt hk)
  generalize (k : Int) = z at h1 h2 ⊢
  show (if R63 z then match ixN ds.length z with
    | some k => match ds[k]? with
      | some y => some (ds.eraseIdx k, y)
      | none => none
    | none => none else none) = _
  rw [if_pos h2, h1]
  dsimp only
  rw [hy]
theorem fPop_eq {y : D} (e : H[n]? = some (.lst (ds ++ [y]))) (hp : b ≤ n ∨ nrfO (.lst ds) = true) :
    fPop (.ref n) [] b H = .ok (.v y) (H.set n (.lst ds)) := by
  unfold fPop chL ownL
  simp only [e]
  have e1 : (ds ++ [y])[(ds ++ [y]).length - 1]? = some y := by simp
  simp only [e1, List.dropLast_concat]
  unfold putO
  rw [if_pos (hp.imp id .inl)]
end
/-! ### loops as equations -/
theorem for_any {α : Type} {g : ET} {bd : ST} {cl : List Nat} {b : Nat} {s : Sl} {h : Own} {rr : R} (item : α → D) (p : α → Bool) : ∀ as : List α,
    (∀ a ∈ as, ∃ s1 s2, g (item a) ⟨b, s⟩ h = .next s1 h ∧ bd ⟨b, s1⟩ h = (if p a = true then .ret rr h else .next s2 h) ∧ clr cl s2 = s) →
    forGo none g bd cl b (as.map item) s h = if as.any p = true then .ret rr h else .next s h
  | [], _ => by
    unfold forGo
    simp
  | a :: as, hs => by
    obtain ⟨s1, s2, e1, e2, e3⟩ := hs a List.mem_cons_self
    unfold forGo
    simp only [List.map_cons]
    rw [if_pos (by simp), e1]
    dsimp only
    rw [e2]
    cases hp : p a with
    | true => simp [hp]
    | false =>
      simp only [Bool.false_eq_true, if_false]
      rw [e3, for_any item p as (fun y hy => hs y (List.mem_cons_of_mem _ hy))]
      simp [hp]
/-- a for that carries a state, its invariant by places -/
theorem for_fold {α σ : Type} {g : ET} {bd : ST} {cl : List Nat} {b : Nat} (item : α → D) (enc : σ → Sl) (eh : σ → Own) (step : σ → α → σ) (Inv : σ → Prop) : ∀ (as : List α) (st : σ),
    (∀ a ∈ as, ∀ st, Inv st → Inv (step st a) ∧ ∃ s1 s2, g (item a) ⟨b, enc st⟩ (eh st) = .next s1 (eh st) ∧ bd ⟨b, s1⟩ (eh st) = .next s2 (eh (step st a)) ∧ clr cl s2 = enc (step st a)) → Inv st →
    Inv (as.foldl step st) ∧ forGo none g bd cl b (as.map item) (enc st) (eh st) = .next (enc (as.foldl step st)) (eh (as.foldl step st))
  | [], st, _, i => by
    unfold forGo
    simp [i]
  | a :: as, st, hs, i => by
    obtain ⟨i2, s1, s2, e1, e2, e3⟩ := hs a List.mem_cons_self st i
    obtain ⟨j1, j2⟩ := for_fold (g := g) (bd := bd) (cl := cl) (b := b) item enc eh step Inv as (step st a) (fun y hy => hs y (List.mem_cons_of_mem _ hy)) i2
    refine ⟨j1, ?_⟩
    unfold forGo
    simp only [List.map_cons]
    rw [if_pos (by simp), e1]
    dsimp only
    rw [e2]
    dsimp only
    rw [e3]
    exact j2
/-- the turns of a range -/
theorem rngD_nat (lo n : Nat) : rngD (lo : Int) n = (List.range' lo n).map fun k : Nat => D.int (k : Int) := by
  unfold rngD
  rw [List.range'_eq_map_range, List.map_map]
  apply List.map_congr_left
  intro i _
  simp
theorem rngD_zero (n : Nat) : rngD 0 n = (List.range n).map fun k : Nat => D.int (k : Int) := by
  unfold rngD
  apply List.map_congr_left
  intro i _
  simp
/-! ### bits -/
theorem bnot2 (a : Int) : Builtin.bitNot (Builtin.bitNot a) = a := by
  unfold Builtin.bitNot
  omega
theorem bor_nat (a b : Nat) : Builtin.bitOr (a : Int) (b : Int) = ((a ||| b : Nat) : Int) := by
  have ha : decide ((0 : Int) ≤ Builtin.bitNot (a : Int)) = false := by unfold Builtin.bitNot; rw [decide_eq_false_iff_not]; omega
  have hb : decide ((0 : Int) ≤ Builtin.bitNot (b : Int)) = false := by unfold Builtin.bitNot; rw [decide_eq_false_iff_not]; omega
  unfold Builtin.bitOr Builtin.bitAnd
  rw [ha, hb]
  dsimp only
  rw [bnot2, bnot2, bnot2, Int.toNat_natCast, Int.toNat_natCast]
/-- a & ~b -/
theorem band_not (a b : Nat) : Builtin.bitAnd (a : Int) (-(b : Int) - 1) = ((a - (a &&& b) : Nat) : Int) := by
  have ha : decide ((0 : Int) ≤ (a : Int)) = true := by rw [decide_eq_true_iff]; omega
  have hb : decide ((0 : Int) ≤ -(b : Int) - 1) = false := by rw [decide_eq_false_iff_not]; omega
  have e : Builtin.bitNot (-(b : Int) - 1) = (b : Int) := by unfold Builtin.bitNot; omega
  unfold Builtin.bitAnd
  rw [ha, hb, e]
  dsimp only
  rw [Int.toNat_natCast, Int.toNat_natCast]
  have : a &&& b ≤ a := Nat.and_le_left
  omega
theorem sub_and_bit (a b i : Nat) : (a - (a &&& b)).testBit i = (a.testBit i && !b.testBit i) := by
  induction i generalizing a b with
  | zero =>
    have h1 := @Nat.and_mod_two_eq_one a b
    have h2 : a &&& b ≤ a := Nat.and_le_left
    simp only [Nat.testBit_zero]
    rw [Bool.eq_iff_iff]
    simp only [decide_eq_true_eq, Bool.and_eq_true, Bool.not_eq_true', decide_eq_false_iff_not]
    omega
  | succ i ih =>
    rw [Nat.testBit_succ, Nat.testBit_succ, Nat.testBit_succ, ← ih (a / 2) (b / 2)]
    congr 1
    have h1 : (a &&& b) / 2 = (a / 2) &&& (b / 2) := Nat.and_div_two
    have h2 : a &&& b ≤ a := Nat.and_le_left
    have h3 : (a / 2) &&& (b / 2) ≤ a / 2 := Nat.and_le_left
    have h4 := @Nat.and_mod_two_eq_one a b
    omega
/-- blocked >> k & 1 -/
theorem shr_bit (m k : Nat) : Builtin.bitAnd ((m : Int) / 2 ^ k) 1 = if m.testBit k then 1 else 0 := by
  have e : ((m : Int) / 2 ^ k) = ((m >>> k : Nat) : Int) := by
    rw [Nat.shiftRight_eq_div_pow]
    norm_cast
  have e1 : Builtin.bitAnd ((m >>> k : Nat) : Int) 1 = ((m >>> k : Nat) : Int) % 2 := PyProof.Rows.bitAnd_m1 _
  rw [e, e1, Nat.testBit, Nat.and_comm]
  have h1 : m >>> k &&& 1 = (m >>> k) % 2 := Nat.and_one_is_mod _
  rw [h1]
  generalize m >>> k = x
  rcases Nat.mod_two_eq_zero_or_one x with z | z
  · rw [z]
    simp
    omega
  · rw [z]
    simp
    omega
end Z
set_option Elab.async false
set_option linter.all false
set_option maxRecDepth 100000
/-! Z18: loops by the number of turns done. -/
namespace Z
open PySem PySem.Spec L2
theorem W_list {α : Type} {g : ET} {bd : ST} {cl : List Nat} {b : Nat} {Q : SRes → Prop} {kp : Kp} (item : α → D) (as : List α) (I : Nat → Sl → Own → Prop) {s : Sl} {h : Own} (i0 : I 0 s h) (hk : ∀ k s h, k ≤ as.length → I k s h → kpOk kp h)
    (hs : ∀ k s h (hk : k < as.length), I k s h → ∃ s1 h1, g (item as[k]) ⟨b, s⟩ h = .next s1 h1 ∧ W (bd ⟨b, s1⟩ h1) (Turn cl (I (k + 1)) Q)) (he : ∀ s h, I as.length s h → Q (.next s h)) :
    W (forGo kp g bd cl b (as.map item) s h) Q := by
  have key : ∀ (r : List α) (k : Nat) (s : Sl) (h : Own), as.drop k = r → k ≤ as.length → I k s h → W (forGo kp g bd cl b (r.map item) s h) Q := by
    intro r
    induction r with
    | nil =>
      intro k s h e hkl i
      have : k = as.length := by
        have := congrArg List.length e
        simp at this
        omega
      subst this
      unfold forGo
      simp only [List.map_nil]
      rw [if_pos (hk _ _ _ hkl i)]
      exact he s h i
    | cons a r ih =>
      intro k s h e hkl i
      have hlt : k < as.length := by
        have := congrArg List.length e
        simp at this
        omega
      have ea : as[k] = a := by
        have := List.drop_eq_getElem_cons hlt
        rw [e] at this
        exact (List.cons.inj this).1.symm
      have er : as.drop (k + 1) = r := by
        have := List.drop_eq_getElem_cons hlt
        rw [e] at this
        exact (List.cons.inj this).2.symm
      obtain ⟨s1, h1, e1, w⟩ := hs k s h hlt i
      rw [ea] at e1
      unfold forGo
      simp only [List.map_cons]
      rw [if_pos (hk _ _ _ hkl i), e1]
      dsimp only
      unfold W at w
      cases hb : bd ⟨b, s1⟩ h1 with
      | next s2 h2 => rw [hb] at w; exact ih (k + 1) _ _ er hlt w
      | cnt s2 h2 => rw [hb] at w; exact ih (k + 1) _ _ er hlt w
      | brk s2 h2 => rw [hb] at w; exact w
      | ret r h2 => rw [hb] at w; exact w
      | exc c s2 h2 => rw [hb] at w; exact w.elim
      | stuck => rw [hb] at w; exact w.elim
  exact key as 0 s h rfl (Nat.zero_le _) i0
theorem W_range' {g : ET} {bd : ST} {cl : List Nat} {b : Nat} {Q : SRes → Prop} (lo n : Nat) (I : Nat → Sl → Own → Prop) {s : Sl} {h : Own} (i0 : I 0 s h)
    (hs : ∀ k s h, k < n → I k s h → ∃ s1 h1, g (.int ((lo + k : Nat) : Int)) ⟨b, s⟩ h = .next s1 h1 ∧ W (bd ⟨b, s1⟩ h1) (Turn cl (I (k + 1)) Q)) (he : ∀ s h, I n s h → Q (.next s h)) :
    W (forGo none g bd cl b (rngD (lo : Int) n) s h) Q := by
  rw [rngD_nat]
  refine W_list (fun k : Nat => D.int (k : Int)) (List.range' lo n) I i0 (fun _ _ _ _ _ => by simp) (fun k s h hk i => ?_) (fun s h i => he s h (by simpa using i))
  have := hs k s h (by simpa using hk) i
  simpa using this
theorem W_range {g : ET} {bd : ST} {cl : List Nat} {b : Nat} {Q : SRes → Prop} (n : Nat) (I : Nat → Sl → Own → Prop) {s : Sl} {h : Own} (i0 : I 0 s h)
    (hs : ∀ k s h, k < n → I k s h → ∃ s1 h1, g (.int (k : Int)) ⟨b, s⟩ h = .next s1 h1 ∧ W (bd ⟨b, s1⟩ h1) (Turn cl (I (k + 1)) Q)) (he : ∀ s h, I n s h → Q (.next s h)) :
    W (forGo none g bd cl b (rngD 0 n) s h) Q :=
  W_range' 0 n I i0 (fun k s h hk i => by simpa using hs k s h hk i) he
/-- a comprehension over a range -/
theorem comp_range {g : ET} {t : EB} {x : ED} {b : Nat} {s : Sl} {h : Own} (p : Nat → Bool) (el : Nat → D) (n : Nat)
    (hs : ∀ k, k < n → ∃ s1, g (.int (k : Int)) ⟨b, s⟩ h = .next s1 h ∧ t ⟨b, s1⟩ h = .ok (p k) h ∧ (p k = true → x ⟨b, s1⟩ h = .ok (el k) h)) (hl : n ≤ sizeLine) :
    compGo none g t x b s (rngD 0 n) h [] = .ok (.n (.lst (((List.range n).filter p).map el))) h := by
  rw [rngD_zero, comp_pure (fun k : Nat => D.int (k : Int)) p el (by simp) (List.range n) [] (fun a ha => hs a (List.mem_range.mp ha)) (by simpa using hl)]
  simp
theorem W_ok {r : SRes} {Q : SRes → Prop} (h : Q r) : W r Q := h
section
variable {b : ST} {k : Nat} {Q : SRes → Prop} {s : Sl} {h : Own} {r : R} {cl : List Nat} {I : Sl → Own → Prop}
@[simp] theorem Th_next : Th b k Q (.next s h) = W (b ⟨k, s⟩ h) Q := rfl
@[simp] theorem Th_ret : Th b k Q (.ret r h) = W (.ret r h) Q := rfl
@[simp] theorem Th_brk : Th b k Q (.brk s h) = W (.brk s h) Q := rfl
@[simp] theorem Th_cnt : Th b k Q (.cnt s h) = W (.cnt s h) Q := rfl
@[simp] theorem Turn_next : Turn cl I Q (.next s h) = I (clr cl s) h := rfl
@[simp] theorem Turn_cnt : Turn cl I Q (.cnt s h) = I (clr cl s) h := rfl
@[simp] theorem Turn_brk : Turn cl I Q (.brk s h) = W (.next (clr cl s) h) Q := rfl
@[simp] theorem Turn_ret : Turn cl I Q (.ret r h) = W (.ret r h) Q := rfl
end
theorem W_ite {c : Prop} [Decidable c] {x y : SRes} {Q : SRes → Prop} : W (if c then x else y) Q = if c then W x Q else W y Q := by
  split <;> rfl
theorem sz (n : Nat) (h : n ≤ 1000000) : n ≤ sizeLine := Nat.le_trans h (by decide)
theorem szl {n : Nat} (h : n ≤ 1000000) : n < sizeLine := Nat.lt_of_le_of_lt h (by decide)
theorem cut_hi {xs : List D} {i : Int} {k : Nat} (e : i = (k : Int)) (h : k ≤ xs.length) : cutD xs none (some i) = xs.take k := by
  subst e
  unfold cutD
  rw [HT.sIx_none, HT.sIx_nat, Nat.min_eq_left h]
  simp
theorem cut_lo {xs : List D} {i : Int} {k : Nat} (e : i = (k : Int)) (h : k ≤ xs.length) : cutD xs (some i) none = xs.drop k := by
  subst e
  unfold cutD
  rw [HT.sIx_none, HT.sIx_nat, Nat.min_eq_left h]
  rw [List.take_of_length_le]
  simp
@[simp] theorem fSl_tup {ds : List D} {lo hi : Option Int} {h : Own} : fSl (.tup ds) lo hi h = .ok (.v (.tup (cutD ds lo hi))) h := rfl
@[simp] theorem fSl_lst {ds : List D} {lo hi : Option Int} {h : Own} : fSl (.lst ds) lo hi h = .ok (.n (.lst (cutD ds lo hi))) h := rfl
@[simp] theorem clr_nil {s : Sl} : clr [] s = s := rfl
@[simp] theorem clr_cons {s : Sl} {i : Nat} {cl : List Nat} : clr (i :: cl) s = clr cl (s.set i none) := rfl
/-- a comprehension by an invariant -/
theorem comp_ind {α : Type} {g : ET} {t : EB} {x : ED} {b : Nat} {s : Sl} (item : α → D) (as : List α) (I : Nat → List D → Own → Prop) (hl : as.length ≤ sizeLine)
    (hs : ∀ k acc h (hk : k < as.length), I k acc h → ∃ s1 h1 h2, g (item as[k]) ⟨b, s⟩ h = .next s1 h1 ∧ ((t ⟨b, s1⟩ h1 = .ok false h2 ∧ I (k + 1) acc h2) ∨ (t ⟨b, s1⟩ h1 = .ok true h2 ∧ ∃ y h3, x ⟨b, s1⟩ h2 = .ok y h3 ∧ I (k + 1) (acc ++ [y]) h3))) {h : Own} (i0 : I 0 [] h) :
    ∃ acc h', compGo none g t x b s (as.map item) h [] = .ok (.n (.lst acc)) h' ∧ I as.length acc h' := by
  have key : ∀ (r : List α) (k : Nat) (acc : List D) (h : Own), as.drop k = r → k ≤ as.length → acc.length ≤ k → I k acc h → ∃ acc' h', compGo none g t x b s (r.map item) h acc = .ok (.n (.lst acc')) h' ∧ I as.length acc' h' := by
    intro r
    induction r with
    | nil =>
      intro k acc h e hkl _ i
      have : k = as.length := by
        have := congrArg List.length e
        simp at this
        omega
      subst this
      refine ⟨acc, h, ?_, i⟩
      unfold compGo
      simp
    | cons a r ih =>
      intro k acc h e hkl hal i
      have hlt : k < as.length := by
        have := congrArg List.length e
        simp at this
        omega
      have ea : as[k] = a := by
        have := List.drop_eq_getElem_cons hlt
        rw [e] at this
        exact (List.cons.inj this).1.symm
      have er : as.drop (k + 1) = r := by
        have := List.drop_eq_getElem_cons hlt
        rw [e] at this
        exact (List.cons.inj this).2.symm
      obtain ⟨s1, h1, h2, e1, w⟩ := hs k acc h hlt i
      rw [ea] at e1
      unfold compGo
      simp only [List.map_cons]
      rw [if_pos (by simp), e1]
      dsimp only
      rcases w with ⟨e2, i2⟩ | ⟨e2, y, h3, e3, i2⟩
      · rw [e2]
        dsimp only
        exact ih (k + 1) acc h2 er hlt (by omega) i2
      · rw [e2]
        dsimp only
        rw [e3]
        dsimp only
        rw [if_pos (by omega)]
        exact ih (k + 1) _ h3 er hlt (by simp; omega) i2
  exact key as 0 [] h rfl (Nat.zero_le _) (Nat.zero_le _) i0
end Z
set_option Elab.async false
set_option linter.all false
set_option maxRecDepth 100000
/-! Z19: raise, try, an instance whose making may raise. -/
namespace Z
open PySem PySem.Spec L2
section
variable {ca : Cn} {X : Cx} {W : WF} {pos : Pos} {e a b c : Expr}
def sRaise (c : Nat) : ST := fun τ h => .exc c τ.s h
theorem ss_raise {c : Nat} (hc : X.calm = true) (tk : Takes X W) (hp : PMk X e (fun _ H Q => Q (.ref (ca.ad c)) none H)) : SS ca X W (.Raise (some e) none pos) (sRaise c) :=
  PS.imp (ps_raise hc tk hp) fun D σ H ⟨μ, F, τ, h, A, p⟩ => p μ F H σ Ext.refl A.rel A.sl
/-- try: x / except one of cs: y -/
def nox : SRes → SRes
  | .exc _ _ _ => .stuck
  | r => r
def sTry (cs : List Nat) (x y : ST) : ST := fun τ h => match x τ h with
  | .exc c s h1 => if c ∈ cs then nox (y ⟨τ.b, s⟩ h1) else .stuck
  | r => r
theorem ss_try {x : Str} {cv : Value} {cs : List Nat} {body suite : List Stmt} {b₀ : Stmt} {np pos' : Pos} {tb ts : ST} (hs : X.stack = X.env :: X.outer) (hf : X.env.frame = some X.env.locals) (hc : Names X x cv)
    (he : ∀ c ∈ cs, PySem.W.exmOne X.K (.ref (ca.ad c)) cv = some true)
    (hb : ∀ (W : WF) (pn : List (Addr × Obj)) (xe : Value → Shared → Prop), Takes (X.tr pn xe) W → SSs ca (X.tr pn xe) W body tb)
    (hsu : ∀ (a : Addr) (pn : List (Addr × Obj)), SSs ca (X.suite a pn) W0 (b₀ :: suite) ts) :
    SS ca X W (.Try body [.ExceptHandler (some (.Name x np)) none (b₀ :: suite) pos'] [] [] pos) (sTry cs tb ts) :=
  PS.imp (ps_try_only (Wout := W0) hs hf hc (fun u s' ⟨_, _, _, _, _, _, _, _, _, _, _, _, _, _, _, _, z⟩ => z.elim) (fun W pn xe tk _ => hb W pn xe tk) (fun a oe cls d pn _ _ => hsu a _)) fun D σ H ⟨μ, F, τ, h, A, p⟩ => by
    refine ⟨μ, F, τ, h, A, ?_⟩
    unfold sTry at p
    cases hx : tb τ h with
    | exc c s h1 =>
      rw [hx] at p
      dsimp only at p
      by_cases hm : c ∈ cs
      · rw [if_pos hm] at p
        intro μ1 F1 H1 σ1 E1 R1 S1
        refine ⟨true, he c hm, fun _ a ha => ⟨μ1, F1, ⟨τ.b, s⟩, h1, ⟨R1, S1, Nat.le_trans A.bl (E1.len A.rel R1)⟩, ?_⟩, fun z => nomatch z⟩
        have p2 := p.step E1
        show PostS ca W0 τ.b μ1 F1 H1 h1 (ts ⟨τ.b, s⟩ h1) D
        cases ht : ts ⟨τ.b, s⟩ h1 with
        | exc c' s' h' => rw [ht] at p2; exact p2.elim
        | _ => rw [ht] at p2; exact p2
      · rw [if_neg hm] at p
        exact p.elim
    | _ => rw [hx] at p; exact p
/-! ### C(..) that may raise -/
def eMkX (c n : Nat) (G : BD) (xs : EA) : EX := fun τ h => (xs τ h).bind fun ds h1 => if ds.length + 1 = n then
  (match G h1.length (.ref h1.length :: ds) (h1 ++ [.ins c []]) with
  | .next _ h3 => match h3[h1.length]? with
    | some (.ins c' fs) => if nrfs fs = true then .ok (.n (.ins c' fs)) (h3.take h1.length) else .stuck
    | _ => .stuck
  | .exc k _ h3 => .exc k (h3.take h1.length)
  | _ => .stuck) else .stuck
section
variable {CX : CXT} {k : Nat} {f C : Addr} {fd : FuncData} {ps : List Str} {sp : Sp} {E : St → XK} {x : Str} {p : Pos} {es : List Expr} {t : TA}
theorem run_makeS {pins : List (Addr × Obj)} {σ : St} {H : Hp} {s : Shared} {Q : VK} {us : List Value} {vs : List V} (M : Mk X.K C f) (F : FnOk X.prog X.w X.K X.mg X.base CX k f fd ps sp) (hr : Room (k + 1) X.A) (hb : Binds X.K fd ps [])
    (hx : PassesAt CX X σ (E σ)) (I : Inv X pins σ H s) (r : Vals vs us)
    (h : ∀ x dx, H x = none → H dx = none → dx ≠ x → sp (.ref x :: vs) (upd (upd H dx (.own x)) x (.ins C dx [])) (fun v H2 => v = .non ∧ Q (.ref x) H2) (E σ)) :
    wpAny (model X.prog X.w) X.A (call (.ref C) us) (EP X pins σ Q) X.xe s := by
  have q0 := h (s.heap.objs.size + 1) s.heap.objs.size (I.hok.fresh (Nat.le_succ _)) (I.hok.fresh (Nat.le_refl _)) (Nat.ne_of_lt (Nat.lt_succ_self _))
  have J := Inv.made (C := C) I
  have rr : Vals (V.ref (s.heap.objs.size + 1) :: vs) (Value.ref (s.heap.objs.size + 1) :: us) := .cons rfl r
  have hl : (Value.ref (s.heap.objs.size + 1) :: us ++ []).length = ps.length := by
    rw [List.append_nil, ← rr.length]
    exact F.len _ _ _ _ q0
  have hbb := hb _ (Value.ref (s.heap.objs.size + 1) :: us) J.kIn hl
  rw [List.append_nil] at hbb
  refine wpAny_call (make_map (f := f) I.kIn M.makes M.init (beq_iff_eq.mp M.fn) (codeAny_mono (F.run _ X.stack _ _ ⟨Value.ref (s.heap.objs.size + 1) :: us, []⟩ (Value.ref (s.heap.objs.size + 1) :: us) _ _ (E σ) (hr.make C us [])
    (J.env0.make C us []) hbb rr q0) fun r s' q => ?_))
  match r, q with
  | .error e, q => exact hx pins _ _ e s' J q
  | .ok (.ret u), q =>
    obtain ⟨v, H', I3, rv, rfl, q3⟩ := J.after q
    exact ⟨rv, V.ref (s.heap.objs.size + 1), H', I3, rfl, q3⟩
  | .ok .next, q => exact q.elim
  | .ok .brk, q => exact q.elim
  | .ok .cont, q => exact q.elim
def tMakeS (C : Addr) (sp : Sp) (E : St → XK) (t : TA) : TE := fun σ H Q => t σ H fun vs H1 => ∀ x dx, H1 x = none → H1 dx = none → dx ≠ x → sp (.ref x :: vs) (upd (upd H1 dx (.own x)) x (.ins C dx [])) (fun v H2 => v = .non ∧ Q (.ref x) H2) (E σ)
theorem pe_makeS (M : Mk X.K C f) (F : FnOk X.prog X.w X.K X.mg X.base CX k f fd ps sp) (hr : Room (k + 1) X.A) (hg : Gl X x) (hm : X.mg x = some (.ref C)) (hb : Binds X.K fd ps []) (hx : ∀ σ, PassesAt CX X σ (E σ))
    (ha : PA X (e :: es) t) (hdb : (x == ("__debug__" : Str)) = false) (he : starEach (e :: es) X.env = (false, eval e X.env) :: starEach es X.env) (hpl : (backTo pos (starEach es X.env)).any (·.1) = false) :
    PE X (.Call (.Name x p) (e :: es) [] pos) (tMakeS C sp E t) :=
  ⟨fun pins s σ H Q I h => wpAny_Call_Name_kw (ld_glob I hg hm (PySem.W.callWith_K (h₀ := X.base) I.ok.mod.kin M.kp (thn (ha.run pos pins s σ H _ I h) fun us s1 ⟨vs, H1, I1, r, q⟩ => ⟨I1.kIn, run_makeS M F hr hb (hx σ) I1 r q⟩) he hpl) hdb)⟩
end
theorem se_mkX {C f : Addr} {cn n : Nat} {fd : FuncData} {ps : List Str} {k : Nat} {G : BD} {x : Str} {p : Pos} {es : List Expr} {xs : EA} (hn : ps.length = n) (hC : ca.ad cn = C) (M : Mk X.K C f) (F : FnOk X.prog X.w X.K X.mg X.base (L2.CX X.prog X.w) k f fd ps (spB ca n G)) (hr : Room (k + 1) X.A)
    (hg : Gl X x) (hm : X.mg x = some (.ref C)) (hb : Binds X.K fd ps []) (tk : Takes X W) (ha : SA ca X W (e :: es) xs) (hdb : (x == ("__debug__" : Str)) = false) (he : starEach (e :: es) X.env = (false, eval e X.env) :: starEach es X.env)
    (hpl : (backTo pos (starEach es X.env)).any (·.1) = false) : SE ca X W (.Call (.Name x p) (e :: es) [] pos) (eMkX cn n G xs) :=
  PE.imp (pe_makeS M F hr hg hm hb (fun σ => passAt tk σ) ha hdb he hpl) fun σ H Q ⟨μ, F, τ, h, A, p⟩ => ⟨μ, F, τ, h, A, p.bind.imp fun ds μ1 F1 H1 h1 E1 R1 q vs Vs => by
    intro x dx hx hdx hne
    have A1 := A.ext E1 R1
    by_cases hn : ds.length + 1 = n
    · rw [if_pos hn] at q
      have hne' : H1 x = none → upd H1 dx (.own x) x = none := fun z => by rw [upd_ne (Ne.symm hne)]; exact z
      have Ea : Ext h1.length μ1 F1 H1 h1 μ1 F1 (upd (upd H1 dx (.own x)) x (.ins C dx [])) h1 := (Ext.refl.upd hdx).upd (hne' hx)
      have Ra : RelH ca μ1 F1 h1 (upd (upd H1 dx (.own x)) x (.ins C dx [])) := (R1.upd hdx).upd (hne' hx)
      have hxm : x ∉ μ1 := fun z => R1.dom x z hx
      have hxF : F1 x = none := by
        cases q : F1 x with
        | none => rfl
        | some w => exact absurd (R1.fz _ _ q) (by rw [hx]; exact fun z => nomatch z)
      have E2 : Ext h1.length μ1 F1 H1 h1 (μ1 ++ [x]) F1 (upd (upd H1 dx (.own x)) x (.ins C dx [])) (h1 ++ [.ins cn []]) := Ea.alloc hx (Nat.le_refl _)
      have R2 : RelH ca (μ1 ++ [x]) F1 (h1 ++ [.ins cn []]) (upd (upd H1 dx (.own x)) x (.ins C dx [])) := Ra.alloc (by rw [upd_same]; simp) hxm hxF ⟨dx, [], by rw [upd_same, hC], rfl, .nil⟩
      have ix : (μ1 ++ [x])[h1.length]? = some x := by rw [← R1.len]; simp
      refine ⟨μ1 ++ [x], F1, h1 ++ [.ins cn []], .ref h1.length :: ds, h1.length, R2, .cons (.ref ix) (E2.vrs Vs), by rw [List.length_cons]; exact hn, by simp, ?_⟩
      cases hG : G h1.length (.ref h1.length :: ds) (h1 ++ [.ins cn []]) with
      | next s h3 =>
        rw [hG] at q
        intro μ3 F3 H3 E3 R3
        have E4 := E2.trans E3
        obtain ⟨Rc, Ec⟩ := cut_ok R1 E4 R3
        have ix3 := E3.ix _ _ ix
        refine ⟨rfl, ?_⟩
        dsimp only at q
        split at q
        · rename_i c' fs e3
          by_cases hf : nrfs fs = true
          · rw [if_pos hf] at q
            exact q μ1 F3 H3 (Ec τ.b A1.bl) Rc (.ref x) ⟨x, rfl, E1.fresh hx, R3.dom x (List.mem_of_getElem? ix3), hxm, R3.sep _ x _ ix3 e3 (fun z => nomatch z), (R3.ob _ x _ ix3 e3).nrf hf⟩
          · rw [if_neg hf] at q; exact q.elim
        · exact q.elim
      | exc k' s h3 =>
        rw [hG] at q
        intro μ3 F3 H3 E3 R3
        obtain ⟨Rc, Ec⟩ := cut_ok R1 (E2.trans E3) R3
        exact q μ1 F3 H3 (Ec τ.b A1.bl) Rc
      | _ => rw [hG] at q; exact q.elim
    · rw [if_neg hn] at q; exact q.elim⟩
end
end Z
set_option Elab.async false
set_option linter.all false
set_option maxRecDepth 100000
/-! Z20: enumerate of a tuple. -/
namespace Z
open PySem PySem.Spec L2
/-- enumerate(v) of one argument, v told by what its iterator is -/
theorem en1_meets {v : Value} {o : Obj} {H : Heap → Prop} (B : Begins v o H) :
    Meets (Builtin.«enumerate.__new__» ⟨[.type "enumerate", v], []⟩) (fun _ R s => H s.heap ∧
      R (.ok (.ret (.ref (s.heap.push o).objs.size))) { s with heap := (s.heap.push o).push { cls := .type "enumerate", data := .fields #[.none, .bool false, .ref s.heap.objs.size, rawInt 0, .none, .none] } }) :=
  .of_wp fun prog w A R s z => by
    obtain ⟨hp, g, d, tk, os⟩ := s
    obtain ⟨z1, z2⟩ := z
    have hsub := sub_enumerate
    have it1 : ∀ {A' : Around} {E : Value → Shared → Prop} {Q : Value → Shared → Prop}, Q (.ref hp.objs.size) ⟨hp.push o, g, d, tk, os⟩ → wpAny (model prog w) A' (pyIter v) Q E ⟨hp, g, d, tk, os⟩ :=
      fun q => B.iter prog w _ _ ⟨hp, g, d, tk, os⟩ _ z1 q
    wp_walk using it1
    refine wpAny_stack_any fun st => wpAny_pure ?_
    split
    · rename_i c _ _ _ _ _
      cases (c == Value.type "enumerate") <;> (wp_walk using it1; exact ⟨_, rfl, z2⟩)
    · wp_walk using it1
      exact ⟨_, rfl, z2⟩
section
variable {prog : Program} {w : World} {A : Around} {E : Value → Shared → Prop} {s : Shared}
theorem en1_call {v : Value} {o : Obj} {H : Heap → Prop} {Q : Value → Shared → Prop} (B : Begins v o H) (h1 : H s.heap)
    (h : ∀ h', IsEnum h' (s.heap.objs.size + 1) s.heap.objs.size 0 .none → h'.get? s.heap.objs.size = some o → (∀ b u, s.heap.get? b = some u → h'.get? b = some u) → Q (.ref (s.heap.objs.size + 1)) { s with heap := h' }) :
    wpAny (model prog w) A (call (.type "enumerate") [v]) Q E s := by
  refine callType_new F.called_enumerate (by decide) (F.typeCall_enumerate_1 _) (F.newCall_enumerate_1 _) (fun obj => F.args_object_init_2 obj _) F.entry_enumerate_new (en1_meets B) ⟨h1, ?_⟩
  have sz : (s.heap.push o).objs.size = s.heap.objs.size + 1 := Heap.size_push ..
  have e0 : ((s.heap.push o).push { cls := .type "enumerate", data := .fields #[.none, .bool false, .ref s.heap.objs.size, rawInt 0, .none, .none] }).get? (s.heap.push o).objs.size = some { cls := .type "enumerate", data := .fields #[.none, .bool false, .ref s.heap.objs.size, rawInt 0, .none, .none] } := Heap.get?_push_size _ rfl
  show _ ∧ _
  rw [sz] at e0 ⊢
  exact ⟨⟨_, e0, rfl⟩, h _ e0 (Heap.get?_push_of_some _ (Heap.get?_push_size _ B.free)) fun b u x => Heap.get?_push_of_some _ (Heap.get?_push_of_some _ x)⟩
end
/-- the tuple at a, each item in a new pair -/
def IteT (K : PySem.W.Frag) (a : Addr) : It :=
  ⟨fun i H => ∃ (xs : List V) (x : V), SqT K H a xs ∧ xs[i]? = some x, fun i H v H' => ∃ T x, v = .ref T ∧ H T = none ∧ H' = upd H T (.tup [.int (i : Nat), x]) ∧ ∀ xs, SqT K H a xs → xs[i]? = some x, fun i H => ∃ xs : List V, SqT K H a xs ∧ xs.length ≤ i⟩
theorem enT_end {prog : Program} {w : World} {A : Around} {E : Value → Shared → Prop} {s : Shared} {e it l : Addr} {i : Nat} {items : Array Value} {old : Value} {Q : Option Value → Shared → Prop} (hh : A.handled = none)
    (he : IsEnum s.heap e it i old) (hit : s.heap.IsTupleIter it l i) (hl : s.heap.IsTuple l items) (hx : items[i]? = none) (hQ : ∀ h', Heap.ExtBut it s.heap h' → Q none { s with heap := h' }) : wpAny (model prog w) A (pyNext (.ref e)) Q E s := by
  have T : s.TypeIs (.ref e) "enumerate" := ⟨_, he, rfl⟩
  unfold pyNext
  refine wpAny_bind (wpAny_attempt (wpAny_callSpecial?_slot (name := Str.ofString "__next__") T F.slot_enumerate_next (wpAny_call_entry F.slot_enumerate_next T F.entry_enumerate_next ?_ (F.args_enumerate_next_1 _))))
  show wpAny _ _ (field (.ref e) 2 >>= _) _ _ _
  refine wpAny_bind (wpAny_field he rfl (x := .ref it) rfl (wpAny_bind (wpAny_nextOf_tuple_end hh hit hl hx fun h' x ex ⟨o, ho, hc⟩ => ?_)))
  exact wpAny_bind (wpAny_isInstance (T := "StopIteration") (b := true) ⟨o, ho, hc⟩ isSubtype_stop (wpAny_pure (hQ _ ex)))
theorem turn_enT {P : Program} {w : World} {K : PySem.W.Frag} {elts : List Expr} {kk : Nat} {tpos : Pos} (a e it : Addr) :
    L2.Turn P w K (.Tuple elts kk tpos) (IteT K a) [e, it] e (fun i h => (∃ old, IsEnum h e it ((i : Nat) : Int) old) ∧ h.IsTupleIter it a i ∧ e ≠ it) where
  mem := by simp
  obj := fun i h st b hb => by
    obtain ⟨⟨old, he⟩, ⟨o, ho, hc, hd⟩, _⟩ := st
    have e' : b = e ∨ b = it := by simpa using hb
    rcases e' with rfl | rfl
    · exact ⟨_, he, fun v q => nomatch q⟩
    · exact ⟨o, ho, fun v q => by rw [hd] at q; cases q⟩
  keep := fun i h h' st k => let ⟨⟨old, he⟩, hi, hne⟩ := st; ⟨⟨old, k e (by simp) _ he⟩, hi.at fun o q => k it (by simp) o q, hne⟩
  item := by
    intro X hP hw hK hc i pins s σ H E I hf st hg
    subst hP hw hK
    obtain ⟨⟨old, he⟩, hit, hne⟩ := st
    obtain ⟨xs, x, hq, hx⟩ := hg
    obtain ⟨its, rv, p, hz⟩ := I.tuple hq
    obtain ⟨u, hu, ru⟩ := rv.get hx
    have hel : e < s.heap.objs.size := Heap.lt_size he
    have hil : it < s.heap.objs.size := by obtain ⟨_, q, _⟩ := hit; exact Heap.lt_size q
    have hai : a ≠ it := by
      rintro rfl
      obtain ⟨o1, g1, c1, _⟩ := hit
      obtain ⟨o2, g2, c2, _⟩ := p
      rw [g1] at g2
      cases g2
      rw [c1] at c2
      injection c2 with z
      exact absurd z (by decide)
    have hae : e ≠ a := by
      rintro rfl
      obtain ⟨o2, g2, c2, _⟩ := p
      rw [he] at g2
      cases g2
      injection c2 with z
      exact absurd z (by decide)
    have D := Draws.tuple (prog := X.prog) (w := X.w) (A := X.A.in1) (I.ok.hd hc) it a hai its.toArray
    refine wpAny_pyNext_enum_itemC D he ⟨hit, p⟩ (by simpa using (List.getElem?_eq_some_iff.mp hu).1) hne (by simp [hne, hae]) fun y h' tk hy ho hst' hT hsz hk => ?_
    have hyu : y = u := by simpa [hu] using hy.symm
    subst hyu
    refine ⟨_, rfl, wpAny_letOwnedTupleGo_enum (s := { s with heap := h', toks := tk + 1 }) ho fun h'' he' sb => ?_⟩
    have hT2 : h''.get? s.heap.objs.size = some { cls := .type "tuple", data := .seq #[.int i tk, y] } := (sb.2 _ (Nat.ne_of_gt hel)).trans hT
    have new : ObjOk X.prog X.w (upd H s.heap.objs.size (.tup [.int (i : Nat), x])) h'' s.heap.objs.size (.tup [.int (i : Nat), x]) :=
      ⟨by show 2 ≤ sizeLine; decide, [.int i tk, y], .cons ⟨_, rfl⟩ (.cons ru .nil), ⟨_, hT2, rfl, _, rfl⟩⟩
    have I1 : Inv X pins σ (upd H s.heap.objs.size (.tup [.int (i : Nat), x])) { s with heap := h'', toks := tk + 1 } :=
      I.turnedNew (ch := [e, it]) (fun b ob hb q => (sb.2 b (fun z => hb (by simp [z]))).trans (hk b ob (fun z => hb (by simp [z])) (fun z => hb (by simp [z])) q)) hf (Nat.le_refl _) new
    refine ⟨.ref s.heap.objs.size, _, I1, rfl, ⟨_, x, rfl, I.hok.fresh (Nat.le_refl _), rfl, fun ys hy => by rw [I.tuple_inj hy hq]; exact hx⟩, ⟨⟨y, ?_⟩, hst'.1.at fun o q => (sb.2 it (Ne.symm hne)).trans q, hne⟩, fun b hb => ?_⟩
    · rw [show ((i + 1 : Nat) : Int) = (i : Int) + 1 by omega]; exact he'
    · have e' : b = e ∨ b = it := by simpa using hb
      have hb' : b < s.heap.objs.size := by rcases e' with rfl | rfl <;> assumption
      rw [upd_ne (Nat.ne_of_lt hb')]
      exact (hf b hb).1
  done := by
    intro X hP hw hK hc i pins s σ H E I hf st hg
    subst hP hw hK
    obtain ⟨⟨old, he⟩, hit, hne⟩ := st
    obtain ⟨xs, hq, hx⟩ := hg
    obtain ⟨its, rv, p, hz⟩ := I.tuple hq
    obtain ⟨f0, f1, f2, f3, f4, f5⟩ := hf it (by simp)
    have hl := rv.length
    exact enT_end (I.ok.hd hc) he hit p (by simp; omega) fun h' eb => ⟨rfl, I.turned (t' := s.toks) (fun b o hb q => eb b o hb q) f0 f1 f3 f4 f5⟩
  self := fun A i s Q E st h => let ⟨⟨_, he⟩, _⟩ := st; wpAny_pyIter_enum he h
def iEnumA (K : PySem.W.Frag) (ta : TA) : TI := fun σ H R => ta σ H fun vs H1 => ∃ a xs, vs = [.ref a] ∧ ((SqL K H1 a xs ∧ R (Ite K a) H1) ∨ (SqT K H1 a xs ∧ R (IteT K a) H1))
theorem pi_enumA {X : Cx} {e : Expr} {ta : TA} {p pos tpos : Pos} {elts : List Expr} {kk : Nat} (hg : Gl X "enumerate") (hm : X.mg "enumerate" = none) (ha : PA X [e] ta) (hs : starEach [e] X.env = [(false, eval e X.env)] := by rfl) :
    PI X (.Tuple elts kk tpos) (.Call (.Name "enumerate" p) [e] [] pos) (iEnumA X.K ta) := by
  refine ⟨fun pins s σ H R I h => ?_⟩
  refine PyProof.Rows.Call_ (ld_blt I hg hm PyProof.Rows.boot_enumerate (PyProof.Rows.callWith_type1 (thn (ha.run pos pins s σ H _ I h) fun us s1 ⟨vs, H1, I1, r1, a, xs, ev, q⟩ => ?_) hs rfl))
  subst ev
  obtain ⟨u, rfl, ru⟩ : ∃ u, us = [u] ∧ RelV (.ref a) u := by
    cases r1 with
    | cons r rr => cases rr; exact ⟨_, rfl, r⟩
  cases ru
  have fpn : ∀ {h' : Heap}, (∀ b u, s1.heap.get? b = some u → h'.get? b = some u) → ∀ b ∈ [s1.heap.objs.size + 1, s1.heap.objs.size], FpOk X pins H1 b := fun hk b hb => by
    have hle : s1.heap.objs.size ≤ b := by
      rcases List.mem_cons.mp hb with rfl | hb
      · exact Nat.le_add_right _ _
      · rw [List.mem_singleton.mp hb]; exact Nat.le_refl _
    exact I1.fpOk hle (I1.hok.fresh hle)
  rcases q with ⟨hq, q⟩ | ⟨hq, q⟩
  · obtain ⟨its, rv, pl, hz⟩ := I1.list hq
    refine en1_call (begins_list a its.toArray) pl.isList fun h' he hit hk => wpAny_pyIter_enum he ?_
    have I2 : Inv X pins σ H1 { s1 with heap := h' } := I1.kept (t' := s1.toks) hk
    exact ⟨s1.heap.objs.size + 1, [s1.heap.objs.size + 1, s1.heap.objs.size], _, _, H1, rfl, I2, turn_enum a (s1.heap.objs.size + 1) s1.heap.objs.size, ⟨⟨.none, he⟩, ⟨_, hit, rfl, rfl⟩, Nat.succ_ne_self _⟩, fpn hk, q⟩
  · obtain ⟨its, rv, pl, hz⟩ := I1.tuple hq
    refine en1_call (begins_tuple a its.toArray) pl fun h' he hit hk => wpAny_pyIter_enum he ?_
    have I2 : Inv X pins σ H1 { s1 with heap := h' } := I1.kept (t' := s1.toks) hk
    exact ⟨s1.heap.objs.size + 1, [s1.heap.objs.size + 1, s1.heap.objs.size], _, _, H1, rfl, I2, turn_enT a (s1.heap.objs.size + 1) s1.heap.objs.size, ⟨⟨.none, he⟩, ⟨_, hit, rfl, rfl⟩, Nat.succ_ne_self _⟩, fpn hk, q⟩
section
variable {ca : Cn} {X : Cx} {W : WF} {pos : Pos} {e a b c : Expr}
/-- enumerate(list or tuple) -/
def iEnA (xs : EA) : EI := fun τ h => (xs τ h).bind fun ds h1 => match ds with
  | [.lst ds] => .ok (enD ds, none) h1
  | [.tup ds] => .ok (enD ds, none) h1
  | [.ref n] => match h1[n]? with
    | some (.lst ds) => .ok (enD ds, some (n, .lst ds)) h1
    | _ => .stuck
  | _ => .stuck
theorem iteT_ok {K : PySem.W.Frag} {ds : List D} {kp : Kp} {a : Addr} {vs : List V} {μ : List Addr} {F H : Hp} {h : Own} (q : F a = some (.tup vs)) (r : VRs ca μ F vs ds) : ItOk ca (enD ds) kp (IteT K a) μ F H h := by
  intro b μ2 F2 h2 H2 E R hk i
  have q2 : H2 a = some (.tup vs) := R.fz _ _ (E.fz _ _ q)
  have r2 := E.vrs r
  have hl := r.length
  rw [enD_len]
  refine ⟨fun hi => ⟨⟨vs, vs[i]'(by omega), SqT.of q2, by rw [List.getElem?_eq_getElem]⟩, fun x H3 y => ?_⟩, fun hi => ⟨vs, SqT.of q2, by omega⟩⟩
  obtain ⟨T, x0, rfl, hT, rfl, y⟩ := y
  obtain ⟨d, e1, e2⟩ := r2.getV (y vs (SqT.of q2))
  obtain ⟨_, R3⟩ := fzNew (b := 0) R hT (.tup [.int (i : Nat), x0])
  exact ⟨_, _, enD_get e1, fun b => (fzNew R hT _).1, R3, .tup upd_same (.cons (.int _) (.cons ((fzNew (b := 0) R hT _).1.vr e2) .nil))⟩
theorem si_enA {tg : Expr} {xs : EA} (h : PI X tg e (iEnumA X.K (rdA ca W xs))) : SI ca X W tg e (iEnA xs) := PI.imp h fun σ H R ⟨μ, F, τ, h, A, p⟩ => ⟨μ, F, τ, h, A, p.bind.imp fun ds μ1 F1 H1 h1 E1 R1 q vs Vs => by
  split at q
  · obtain ⟨v, rfl, Vr⟩ := Vs.one
    cases Vr with
    | @lst a vs ds qt r => exact ⟨a, vs, rfl, .inl ⟨SqL.of (R1.fz _ _ qt), q.ok R1 (fun n o z => by cases z) _ (ite_ok fun b μ2 F2 h2 H2 E R hk => ⟨vs, R.fz _ _ (E.fz _ _ qt), E.vrs r⟩)⟩⟩
  · obtain ⟨v, rfl, Vr⟩ := Vs.one
    cases Vr with
    | @tup a vs ds qt r => exact ⟨a, vs, rfl, .inr ⟨SqT.of (R1.fz _ _ qt), q.ok R1 (fun n o z => by cases z) _ (iteT_ok qt r)⟩⟩
  · rename_i n
    obtain ⟨v, rfl, Vr⟩ := Vs.one
    cases Vr with
    | @ref a n en =>
      split at q
      · rename_i ds e0
        obtain ⟨vs, q1, r1⟩ := R1.ob n _ _ en e0
        exact ⟨a, vs, rfl, .inl ⟨SqL.of q1, q.ok R1 (fun m o z => by cases z; exact e0) _ (ite_ok fun b μ2 F2 h2 H2 E R hk => R.ob n a _ (E.ix n a en) (hk n _ rfl))⟩⟩
      · exact q.elim
  · exact q.elim⟩
end
end Z
set_option Elab.async false
set_option linter.all false
set_option maxRecDepth 100000
/-! Z21: sorted(set(ints)). -/
namespace Z
open PySem PySem.Spec L2 PyProof.Rows
/-- a set as it is made -/
abbrev newSet (w : World) : Obj := { cls := .type "set", dict := none, data := .set #[] 0 (.fresh 0 0 (!w.params.followText "set-order")) }
section
variable {P : Program} {w : World} {A : Around} {E : Value → Shared → Prop} {s : Shared}
set_option maxHeartbeats 3200000 in
theorem set_listI {l : Addr} {items : Array Value} (ns : List Int) {Q : Value → Shared → Prop} (hh : A.handled = none) (hl : s.heap.IsList l items) (hit : IntsAre items.toList ns) (hb : ns.length + 1 < scanBound)
    (h : ∀ (h' : Heap) (tk c : Nat), SetR w h' s.heap.objs.size (fun j => decide (j ∈ ns)) c → c ≤ ns.length → (∀ b o, s.heap.get? b = some o → h'.get? b = some o) → Q (.ref s.heap.objs.size) { s with heap := h', toks := tk }) :
    wpAny (model P w) A (call (.type "set") [.ref l]) Q E s := by
  have hisz : items.size = ns.length := by rw [← Array.length_toList]; exact IntsAre.length hit
  obtain ⟨c, tl, hmro⟩ := F.called_set.mro
  have hmade := F.called_set.made
  have hsub := F.called_set.sub
  refine wpAny_call (codeAny_of_tree ?_)
  show wpAny _ _ (callAny (.type "set") _) _ _ _
  refine wpAny_pure ⟨Code.quiet_builtin _ (by decide +kernel), codeAny_builtin F.entry_type_call ?_⟩
  rw [Around.under_plain (weight_type_call_type "set" [.ref l] []) rfl]
  have h1 := F.called_set.notType
  have h2 := F.called_set.canCreate
  have hct := F.typeCall_set_1 (.ref l)
  repeat (any_goals (first | assumption | wp_step))
  refine codeAny_mono (code_set_led1 (.ref l) (E := E) (Q₁ := fun obj s₁ => obj = .ref s.heap.objs.size ∧ s₁ = { s with heap := s.heap.push (newSet w) }) ⟨rfl, rfl⟩) fun r s₁ hr => ?_
  match r, hr with
  | .error e, hr => exact hr
  | .ok .next, hr => exact hr.elim
  | .ok .brk, hr => exact hr.elim
  | .ok .cont, hr => exact hr.elim
  | .ok (.ret obj), hr =>
    obtain ⟨rfl, rfl⟩ := hr
    have hS : (s.heap.push (newSet w)).get? s.heap.objs.size = some (newSet w) := Heap.get?_push_size _ rfl
    have hT : Shared.TypeIs { s with heap := s.heap.push (newSet w) } (.ref s.heap.objs.size) "set" := ⟨_, hS, rfl⟩
    have hli := F.called_set.init.lookup
    have hbi := F.called_set.init.bind (.ref s.heap.objs.size)
    repeat (any_goals (first | assumption | wp_step))
    refine codeAny_mono (codeAny_call_builtin (R := wants (fun r s₂ => r = .none ∧ ∃ h' tk c, s₂ = { s with heap := h', toks := tk } ∧ SetR w h' s.heap.objs.size (fun j => decide (j ∈ ns)) c ∧ c ≤ ns.length ∧
        (∀ b o, s.heap.get? b = some o → h'.get? b = some o)) E) F.called_set.init.plain F.entry_set_init (check_set_init_1 hT ?_)) fun r₂ s₂ hr₂ => ?_
    · obtain ⟨⟨ocls, odict, odata, oslots⟩, hol, hcl, nl, hdl⟩ := hl
      simp only at hcl hdl
      subst hcl hdl
      have hol' : (s.heap.push (newSet w)).get? l = some { cls := .type "list", dict := odict, data := .seq items nl, slots := oslots } := Heap.get?_push_of_some _ hol
      have hl1 : (s.heap.push (newSet w)).IsList l items := ⟨_, hol', rfl, nl, rfl⟩
      have hsls := F.sub_list_set
      have hslf := F.sub_list_frozenset
      have hne : (Value.type "list" == Value.type "dict") = false := by decide
      unfold Builtin.«set.__init__» noKeywords Builtin.Frozenset.updateFrom
      generalize hPI : pyIter = PI
      wp_walk
      subst hPI
      refine wpAny_pyIter_list hl1 (wpAny_bind (wpAny_runValue ?_))
      have hlS : l < s.heap.objs.size := Heap.lt_size hol
      have hz1 : (s.heap.push (newSet w)).objs.size = s.heap.objs.size + 1 := Heap.size_push ..
      have hneI : l ≠ (s.heap.push (newSet w)).objs.size := by rw [hz1]; exact Nat.ne_of_lt (Nat.lt_succ_of_lt hlS)
      have hSf : s.heap.objs.size ∉ [(s.heap.push (newSet w)).objs.size, l] := by
        rw [hz1]
        intro z
        rcases List.mem_cons.mp z with z | z
        · exact absurd z (Nat.ne_of_lt (Nat.lt_succ_self _))
        · rw [List.mem_singleton] at z
          exact absurd z (Nat.ne_of_gt hlS)
      have hval : ∀ (i : Nat) (v : Value), items[i]? = some v → ∃ k t, ns[i]? = some k ∧ v = .int k t := fun i v hv => by
        have hi : i < ns.length := by rw [← hisz]; exact (Array.getElem?_eq_some_iff.mp hv).1
        obtain ⟨t, e⟩ := PyProof.Rows.IntsAre.int_at hit i v (by rw [Array.getElem?_toList]; exact hv)
        exact ⟨ns[i], t, List.getElem?_eq_getElem hi, by rw [e, List.getD_eq_getElem?_getD, List.getElem?_eq_getElem hi] <;> rfl⟩
      refine set_update_ints ((Walks.list (show A.in1.in1.in1.handled = none by simp [hh]) _ l hneI items).toS) s.heap.objs.size
        hSf ns hisz hb hval (items.size - 0) 0 _ (by omega) (Nat.zero_le _) ⟨⟨_, Heap.get?_push_size _ rfl, rfl, rfl⟩, (hl1.push _)⟩ ⟨0, Nat.le_refl 0, setR_new_at (Heap.get?_push_of_some _ hS)⟩ ?_
      rintro ⟨h', g2, d', tk', os'⟩ c' hm hc' hS'
      have eg : g2 = s.gens := hm.gens
      have ed : d' = s.drawn := hm.drawn
      have eo : os' = s.os := hm.os
      subst eg ed eo
      show wpAny _ _ _ _ _ _
      refine wpAny_pure ?_
      show wpAny _ _ (ret Value.none) _ _ _
      rw [hisz] at hc'
      refine wpAny_pure ⟨rfl, h', tk', c', rfl, hS', hc', fun b o e => ?_⟩
      have hb0 : b < s.heap.objs.size := Heap.lt_size e
      refine hm.heap b o (fun z => ?_) (Heap.get?_push_of_some _ (Heap.get?_push_of_some _ e))
      rw [hz1] at z
      rcases List.mem_cons.mp z with z | z
      · exact Nat.ne_of_lt hb0 z
      · exact Nat.ne_of_lt (Nat.lt_succ_of_lt hb0) (List.mem_singleton.mp z)
    · match r₂, hr₂ with
      | .error e, hr₂ => exact hr₂
      | .ok .next, hr₂ => exact hr₂.elim
      | .ok .brk, hr₂ => exact hr₂.elim
      | .ok .cont, hr₂ => exact hr₂.elim
      | .ok (.ret r), hr₂ =>
        obtain ⟨rfl, h', tk, c', rfl, hS', hc', hk'⟩ := hr₂
        repeat (any_goals (first | assumption | wp_step))
        exact h _ _ _ hS' hc' hk'
end
def rSetI (K : PySem.W.Frag) (w : World) : List V → Hp → VK → Prop := fun xs H Q => ∃ (l : Addr) (ns : List Int), xs = [.ref l] ∧ (SqL K H l (ns.map V.int) ∨ SqT K H l (ns.map V.int)) ∧ ns.length < 1000 ∧
  ∀ (p : Addr) (c : Nat), c ≤ ns.length → H p = none → Q (.ref p) (upd H p (SetO w p (fun j => decide (j ∈ ns)) c))
theorem intsAre_of {ns : List Int} : ∀ {us : List Value}, Vals (ns.map V.int) us → IntsAre us ns := by
  induction ns with
  | nil => intro us r; cases r; exact .nil
  | cons n ns ih =>
    intro us r
    rw [List.map_cons] at r
    cases r with
    | cons ru rr =>
      obtain ⟨t, rfl⟩ := ru
      exact .cons _ _ (ih rr)
theorem cr_setI {X : Cx} (hc : X.calm = true) : CallR X (.type "set") (rSetI X.K X.w) := by
  intro pins s σ H vs us Q I r h
  obtain ⟨l, ns, rfl, hq, hlen, q⟩ := h
  rw [Vals.ref1 r]
  have done : ∀ (h' : Heap) (tk c : Nat), SetR X.w h' s.heap.objs.size (fun j => decide (j ∈ ns)) c → c ≤ ns.length → (∀ b o, s.heap.get? b = some o → h'.get? b = some o) → EP X pins σ Q (.ref s.heap.objs.size) { s with heap := h', toks := tk } := fun h' tk c R hcl k =>
    ⟨.ref _, upd H s.heap.objs.size (SetO X.w s.heap.objs.size (fun j => decide (j ∈ ns)) c), I.laid (t' := tk) k (Nat.le_refl _) (setO_new R), rfl, q _ c hcl (I.hok.fresh (Nat.le_refl _))⟩
  have hb : ns.length + 1 < scanBound := Nat.lt_of_lt_of_le (show ns.length + 1 < 1001 by omega) (by decide)
  rcases hq with hq | hq
  · obtain ⟨its, rv, pl, hz⟩ := I.list hq
    exact set_listI ns (I.ok.hd hc) pl.isList (by simpa using intsAre_of rv) hb done
  · obtain ⟨its, rv, pl, hz⟩ := I.tuple hq
    exact call_set_tupI ns (I.ok.hd hc) pl (by simpa using intsAre_of rv) hb done
/-- the different ones, rising -/
def ins1 (n : Int) : List Int → List Int
  | [] => [n]
  | m :: ms => if n < m then n :: m :: ms else if n = m then m :: ms else m :: ins1 n ms
def sset (ns : List Int) : List Int := ns.foldr ins1 []
theorem mem_ins1 {n k : Int} : ∀ {ms : List Int}, k ∈ ins1 n ms ↔ k = n ∨ k ∈ ms
  | [] => by simp [ins1]
  | m :: ms => by
    unfold ins1
    split
    · simp
    · split
      · rename_i h1 h2
        subst h2
        simp
      · simp only [List.mem_cons, mem_ins1 (ms := ms)]
        constructor <;> intro h <;> (rcases h with h | h | h <;> simp [h])
theorem ins1_sorted {n : Int} : ∀ {ms : List Int}, ms.Pairwise (· < ·) → (ins1 n ms).Pairwise (· < ·)
  | [], _ => by simp [ins1]
  | m :: ms, h => by
    obtain ⟨h1, h2⟩ := List.pairwise_cons.mp h
    unfold ins1
    split
    · rename_i hn
      refine List.pairwise_cons.mpr ⟨fun y hy => ?_, h⟩
      rcases List.mem_cons.mp hy with rfl | hy
      · exact hn
      · exact Int.lt_trans hn (h1 y hy)
    · split
      · exact h
      · rename_i g1 g2
        refine List.pairwise_cons.mpr ⟨fun y hy => ?_, ins1_sorted h2⟩
        rcases mem_ins1.mp hy with rfl | hy
        · omega
        · exact h1 y hy
theorem mem_sset {k : Int} {ns : List Int} : k ∈ sset ns ↔ k ∈ ns := by
  induction ns with
  | nil => simp [sset]
  | cons n ns ih =>
    show k ∈ ins1 n (sset ns) ↔ _
    rw [mem_ins1, ih, List.mem_cons]
theorem sset_sorted (ns : List Int) : (sset ns).Pairwise (· < ·) := by
  induction ns with
  | nil => simp [sset]
  | cons n ns ih => exact ins1_sorted ih
theorem asc_uniq : ∀ {as bs : List Int}, as.Pairwise (· < ·) → bs.Pairwise (· < ·) → (∀ k, k ∈ as ↔ k ∈ bs) → as = bs
  | [], [], _, _, _ => rfl
  | [], b :: bs, _, _, h => by have := (h b).mpr List.mem_cons_self; cases this
  | a :: as, [], _, _, h => by have := (h a).mp List.mem_cons_self; cases this
  | a :: as, b :: bs, ha, hb, h => by
    obtain ⟨a1, a2⟩ := List.pairwise_cons.mp ha
    obtain ⟨b1, b2⟩ := List.pairwise_cons.mp hb
    have e : a = b := by
      rcases List.mem_cons.mp ((h a).mp List.mem_cons_self) with z | z
      · exact z
      · rcases List.mem_cons.mp ((h b).mpr List.mem_cons_self) with y | y
        · exact y.symm
        · have := b1 a z
          have := a1 b y
          omega
    subst e
    congr 1
    refine asc_uniq a2 b2 fun k => ⟨fun hk => ?_, fun hk => ?_⟩
    · rcases List.mem_cons.mp ((h k).mp (List.mem_cons_of_mem _ hk)) with rfl | z
      · have := a1 k hk; omega
      · exact z
    · rcases List.mem_cons.mp ((h k).mpr (List.mem_cons_of_mem _ hk)) with rfl | z
      · have := b1 k hk; omega
      · exact z
section
variable {ca : Cn} {X : Cx} {W : WF} {pos : Pos} {e a b c : Expr}
/-- sorted(set(x)) -/
def fSSet : FA := fun xs h => match xs with
  | [d] => match asQ h d with
    | some ds => match asI ds with
      | some ns => if ns.length < 64 then .ok (.n (.lst ((sset ns).map .int))) h else .stuck
      | none => .stuck
    | none => .stuck
  | _ => .stuck
def rSSet (K : PySem.W.Frag) (w : World) : List V → Hp → VK → Prop := fun xs H Q => rSetI K w xs H fun u H2 => rSortedSet w [u] H2 Q
theorem lk_sset {K : PySem.W.Frag} {w : World} : LkA ca fSSet (rSSet K w) := fun b μ F H h Wx vs ds Q R Vs _ p => by
  unfold fSSet at p
  split at p
  · obtain ⟨v, rfl, Vr⟩ := Vs.one
    split at p
    · rename_i ds e1
      obtain ⟨a, vs, rfl, q, r⟩ := asQ_ok R Vr e1
      split at p
      · rename_i ns e2
        obtain rfl := asI_eq e2
        obtain rfl := r.ints
        by_cases hl : ns.length < 64
        · rw [if_pos hl] at p
          refine ⟨a, ns, rfl, SqQ q, by omega, fun p0 c hc hp0 => ⟨p0, _, c, rfl, upd_same, by omega, fun ms p1 hs hm _ hp1 => ?_⟩⟩
          have e : ms = sset ns := asc_uniq hs (sset_sorted ns) fun k => by rw [hm k, mem_sset]; simp
          subst e
          have E0 : Ext b μ F H h μ F (upd H p0 (SetO w p0 (fun j => decide (j ∈ ns)) c)) h := Ext.refl.upd hp0
          have R0 : RelH ca μ F h (upd H p0 (SetO w p0 (fun j => decide (j ∈ ns)) c)) := R.upd hp0
          obtain ⟨e1, R1, w1⟩ := neNew (b := b) R0 hp1 (.lst ((sset ns).map V.int)) (o := .lst ((sset ns).map .int)) fun H' q => ⟨_, q, VRs.of_ints _⟩
          exact p _ _ _ (E0.trans e1) R1 _ (RR.back E0 w1)
        · rw [if_neg hl] at p; exact p.elim
      · exact p.elim
    · exact p.elim
  · exact p.elim
theorem se_sset {xs : EA} {p p2 pos2 : Pos} (hc : X.calm = true) (hg : Gl X "sorted") (hm : X.mg "sorted" = none) (hv : bootBuiltins "sorted" = some (.builtin "sorted")) (hg2 : Gl X "set") (hm2 : X.mg "set" = none) (hv2 : bootBuiltins "set" = some (.type "set"))
    (h : SA ca X W [e] xs) (hs : starEach [e] X.env = (false, eval e X.env) :: starEach [] X.env) (hpl : (backTo pos2 (starEach [] X.env)).any (·.1) = false)
    (hs2 : starEach [Expr.Call (.Name "set" p2) [e] [] pos2] X.env = (false, eval (Expr.Call (.Name "set" p2) [e] [] pos2) X.env) :: starEach [] X.env) (hpl2 : (backTo pos (starEach [] X.env)).any (·.1) = false) :
    SE ca X W (.Call (.Name "sorted" p) [.Call (.Name "set" p2) [e] [] pos2] [] pos) (eA fSSet xs) := by
  have key : PE X (.Call (.Name "sorted" p) [.Call (.Name "set" p2) [e] [] pos2] [] pos) (tCB (rSSet X.K X.w) (rdA ca W xs)) :=
    PE.imp (pe_callB (cr_sortedSet hc) hg hm hv (pa_cons (pe_callTy (cr_setI hc) hg2 hm2 hv2 h (by decide) (by decide) hs hpl) pa_nil hs2) (by decide) (by decide) hs2 hpl2) fun σ H Q q => q
  exact se_b key lk_sset
end
end Z
set_option Elab.async false
set_option linter.all false
set_option maxRecDepth 100000
/-! Z22: {t: v} with a tuple as the key; d.update of a dict comprehension. -/
namespace Z
open PySem PySem.Spec L2
/-- d[t] = v by a display -/
theorem d_dictSetT {X : Cx} {pins : List (Addr × Obj)} {σ : St} {H : Hp} {s : Shared} {E : Value → Shared → Prop} {p b : Addr} {kvs : List (List Key × V)} {k : List Key} {v : V} {r : Value} {Q : Unit → Shared → Prop} (hu : X.A.units + 1 < cLine) (I : Inv X pins σ H s) (hp : H p = some (.dT kvs)) (hz : kvs.length < sizeLine)
    (hb : H b = some (.tup (k.map kV))) (rv : RelV v r) (h : ∀ s', Inv X pins σ (upd H p (.dT (putK kvs k v))) s' → Q () s') : wpAny (model X.prog X.w) X.A (dictSet p (.ref b) r) Q E s := by
  obtain ⟨z, hd, xs, rel, dd⟩ := dt_of I.hok hp
  have hzv : xs.length ≤ sizeLine := by rw [← Paired.length rel]; exact z
  have hl : (putK kvs k v).length ≤ sizeLine := by have := length_putK kvs k v; omega
  refine wpAny_dictSet_heap (hsz := hzv) (Nat.lt_trans (Nat.lt_succ_self _) hu) (key_of I.hok hb) dd fun h' dd' hs => h _ ?_
  obtain ⟨q, es, ep, hq, g2, g3, g4, _, g5⟩ := dd'
  refine d_write I (by rw [hp]; exact True.intro) hs ⟨q, hq⟩ ⟨hl, hd, _, (rel.put k hb rv).keeps fun c ys ec => ?_, q, es, ep, hq, g2, g3, g4, g5⟩
  rw [upd_ne (ne_of ec hp (fun z => nomatch z))]
  exact ec
def tDisp1 (tk tv : TE) : TE := fun σ H Q => ∀ p, H p = none → tk σ (upd H p (.dT [])) fun x H1 => tv σ H1 fun y H2 => ∃ b ks, x = .ref b ∧ H2 b = some (.tup (ks.map kV)) ∧ H2 p = some (.dT []) ∧ Q (.ref p) (upd H2 p (.dT [(ks, y)]))
theorem pe_disp1 {X : Cx} {pos : Pos} {k v : Expr} {tk tv : TE} (hu : X.A.units + 1 < cLine) (hk : PE X k tk) (hv : PE X v tv) : PE X (.Dict [some k] [v] pos) (tDisp1 tk tv) := by
  refine ⟨fun pins s σ H Q I q => ?_⟩
  have hn := I.hok.fresh (Nat.le_refl s.heap.objs.size)
  have I1 := I.laid (a := s.heap.objs.size) (o := .dT []) (h' := s.heap.push { cls := .type "dict", data := .dict #[] }) (t' := s.toks) (fun _ _ q => Heap.get?_push_of_some _ q) (Nat.le_refl _) (dt_empty s.heap I.big)
  have P1 : PPs X pos [some k] [v] [(tk, tv)] := pps_cons hk hv pps_nil
  refine wpAny_Dict_any rfl rfl (by simp) (show 1 ≤ 15 by decide) (thn (P1.run pins _ σ _ (fun ps H2 => match ps with
    | [(x, y)] => ∃ b ks, x = .ref b ∧ H2 b = some (.tup (ks.map kV)) ∧ H2 s.heap.objs.size = some (.dT []) ∧ Q (.ref s.heap.objs.size) (upd H2 s.heap.objs.size (.dT [(ks, y)]))
    | _ => False) I1 (q _ hn)) fun ws s2 ⟨ps, H2, I2, rel, q1⟩ => ?_)
  match ps, rel, q1 with
  | [(x, y)], rel, ⟨b, ks, ex, hb, hp, q2⟩ =>
    obtain ⟨u, r, rfl, ru, rr⟩ : ∃ u r, ws = [(u, r)] ∧ RelV x u ∧ RelV y r := by
      cases rel with
      | cons h t => cases t; exact ⟨_, _, rfl, h.1, h.2⟩
    subst ex
    cases ru
    show wpAny _ _ (forIn [(Value.ref b, r)] PUnit.unit _) _ _ _
    rw [List.forIn_cons]
    refine wpAny_bind (wpAny_bind (d_dictSetT hu I2 hp (by decide) hb rr fun s3 I3 => wpAny_pure ?_))
    dsimp only
    rw [List.forIn_nil]
    exact wpAny_pure ⟨.ref _, _, I3, rfl, q2⟩
section
variable {ca : Cn} {X : Cx} {W : WF} {pos : Pos} {e a b c : Expr}
/-- {k: v}, k a tuple -/
def eDisp1 (k v : ED) : EX := fun τ h => (k τ h).bind fun x h1 => (v τ h1).bind fun y h2 => match asKs x with
  | some ks => .ok (.n (.dT [(ks, y)])) h2
  | none => .stuck
theorem se_disp1 {k v : Expr} {xk xv : ED} (hu : X.A.units + 1 < cLine) (hk : SD ca X W k xk) (hv : SD ca X W v xv) : SE ca X W (.Dict [some k] [v] pos) (eDisp1 xk xv) := PE.imp (pe_disp1 hu hk hv) fun σ H Q ⟨μ, F, τ, h, A, p⟩ l hl => by
  have hF : F l = none := by
    cases q : F l with
    | none => rfl
    | some w => exact absurd (A.rel.fz _ _ q) (by rw [hl]; exact fun z => nomatch z)
  have hm : l ∉ μ := fun z => A.rel.dom l z hl
  have A1 : At ca μ F τ h σ (upd H l (.dT [])) := ⟨A.rel.upd hl, A.sl, A.bl⟩
  have E0 : Ext τ.b μ F H h μ F (upd H l (.dT [])) h := Ext.refl.upd hl
  unfold eDisp1 at p
  refine ⟨μ, F, τ, h, A1, ?_⟩
  cases hx : xk τ h with
  | stuck => rw [hx] at p; exact p.elim
  | exc c h1 => rw [hx] at p; exact fun μ1 F1 H1 E1 R1 => p μ1 F1 H1 (E0.trans E1) R1
  | ok x h1 =>
    rw [hx] at p
    intro μ1 F1 H1 E1 R1 vx Vx
    have A2 := A1.ext E1 R1
    refine ⟨μ1, F1, τ, h1, A2, ?_⟩
    dsimp only [Res.bind] at p
    cases hy : xv τ h1 with
    | stuck => rw [hy] at p; exact p.elim
    | exc c h2 => rw [hy] at p; exact fun μ2 F2 H2 E2 R2 => p μ2 F2 H2 (E0.trans (E1.trans E2)) R2
    | ok y h2 =>
      rw [hy] at p
      intro μ2 F2 H2 E2 R2 vy Vy
      have E12 := E1.trans E2
      dsimp only at p
      cases ek : asKs x with
      | none => rw [ek] at p; exact p.elim
      | some ks =>
        rw [ek] at p
        obtain ⟨b, eb, hb⟩ := asKs_ok R2.fz (E2.vr Vx) ek
        have hlD : H2 l = some (.dT []) := E12.frame l _ upd_same hm
        have hm1 : l ∉ μ2 := fun z => by
          obtain ⟨m, e1, e2⟩ := E12.pre
          rw [e1] at z
          rcases List.mem_append.mp z with z | z
          · exact hm z
          · exact absurd (e2 l z) (by rw [upd_same]; exact fun z => nomatch z)
        have hF1 : F2 l = none := by
          cases q : F2 l with
          | none => rfl
          | some w =>
            rcases E12.newF l (by rw [q]; simp) with z | z | z | ⟨_, z⟩ | ⟨_, z⟩
            · exact absurd hF z
            · exact absurd z hm
            · rw [upd_same] at z; cases z
            · rw [upd_same] at z; cases z
            · rw [upd_same] at z; unfold LamX.CodeO at z; cases z
        exact ⟨b, ks, eb, hb, hlD, p μ2 F2 _ ((E0.trans E12).updFree hl) (R2.updFree hm1 hF1) _ ⟨l, rfl, hl, by rw [upd_same]; simp, hm1, hF1, _, upd_same, rfl, .cons Vy .nil⟩⟩
end
end Z
set_option Elab.async false
set_option linter.all false
set_option maxRecDepth 100000
/-! Z23: {k: v for .. if ..}; d.update(d2). -/
namespace Z
open PySem PySem.Spec L2
section
variable {ca : Cn} {X : Cx} {W : WF} {pos : Pos} {e a b c : Expr} {vs : List Nat}
open Classical in
noncomputable def dcGo (kp : Kp) (g : ET) (t : EB) (kx vx : ED) (b : Nat) (s : Sl) : List D → Own → List (Key × D) → Res R
  | [], h, acc => if kpOk kp h then .ok (.n (.dK acc)) h else .stuck
  | d :: ds, h, acc => if kpOk kp h then
      match g d ⟨b, s⟩ h with
      | .next s1 h1 => match t ⟨b, s1⟩ h1 with
        | .ok true h2 => match kx ⟨b, s1⟩ h2 with
          | .ok y h3 => match vx ⟨b, s1⟩ h3 with
            | .ok z h4 => match asK y with
              | some k => if acc.length < sizeLine then dcGo kp g t kx vx b s ds h4 (putD acc k z) else .stuck
              | none => .stuck
            | _ => .stuck
          | _ => .stuck
        | .ok false h2 => dcGo kp g t kx vx b s ds h2 acc
        | _ => .stuck
      | _ => .stuck
    else .stuck
noncomputable def eDC (it : EI) (g : ET) (t : EB) (kx vx : ED) (vs : List Nat) : EX := fun τ h => (it τ h).bind fun p h1 => dcGo p.2 g t kx vx τ.b (Z.clr vs τ.s) p.1 h1 []
theorem dc_rd {wi : TI} {it : EI} {g : ET} {t : EB} {kx vx : ED} {σ : L2.St} {H : Hp} {Q : VK} (h : rdE ca W (eDC it g t kx vx vs) σ H Q) : tDc (rdI ca W it) (rdGw ca vs g) (rdB ca W0 t) (rdD ca W0 kx) (rdD ca W0 vx) vs σ H Q := by
  obtain ⟨μ, F, τ, h, A, p⟩ := h
  refine ⟨μ, F, τ, h, A, ?_⟩
  unfold eDC at p
  cases hit : it τ h with
  | stuck => rw [hit] at p; exact p
  | exc c h1 => rw [hit] at p; exact p
  | ok pr h1 =>
    rw [hit] at p
    obtain ⟨ds, kp⟩ := pr
    intro μ1 F1 H1 E1 R1 hk J ok D hD
    have hk : kpOk kp h1 := hk
    have ok : ItOk ca ds kp J μ1 F1 H1 h1 := ok
    have p : PostG ca τ.b μ F H h (dcGo kp g t kx vx τ.b (Z.clr vs τ.s) ds h1 []) (wx ca W σ) fun r μ1 F1 H1 _ => ∀ v, RR ca μ1 F1 H H1 v r → Q v H1 := p
    have hD0 : H D = none := E1.fresh hD
    have dF : F1 D = none := by
      cases q : F1 D with
      | none => rfl
      | some w => have := R1.fz _ _ q; rw [hD] at this; cases this
    have dM : D ∉ μ1 := fun z => R1.dom D z hD
    refine ⟨fun i m H2 => m = ds.length - i ∧ i ≤ ds.length ∧ ∃ μ2 F2 h2 ws acc, Ext τ.b μ F H h μ2 F2 H2 h2 ∧ Ext τ.b μ1 F1 H1 h1 μ2 F2 H2 h2 ∧ RelH ca μ2 F2 h2 H2 ∧ H2 D = some (.dK ws) ∧ ws.map (·.1) = acc.map (·.1) ∧ VRs ca μ2 F2 (ws.map (·.2)) (acc.map (·.2)) ∧ D ∉ μ2 ∧ F2 D = none ∧
      PostG ca τ.b μ F H h (dcGo kp g t kx vx τ.b (Z.clr vs τ.s) (ds.drop i) h2 acc) (wx ca W σ) fun r μ1 F1 H1 _ => ∀ v, RR ca μ1 F1 H H1 v r → Q v H1,
      ⟨ds.length, rfl, Nat.zero_le _, μ1, F1, h1, [], [], E1.upd hD, Ext.refl.upd hD, R1.upd hD, upd_same, rfl, .nil, dM, dF, p⟩, ?_⟩
    rintro i m H2 ⟨rfl, hi, μ2, F2, h2, ws, acc, E2, Eg, R2, q2, K2, V2, nM, nF, w⟩
    have hkp : kpOk kp h2 := by
      cases hd : ds.drop i with
      | nil =>
        rw [hd, dcGo] at w
        by_cases z : kpOk kp h2
        · exact z
        · rw [if_neg z] at w; exact w.elim
      | cons d r =>
        rw [hd, dcGo] at w
        by_cases z : kpOk kp h2
        · exact z
        · rw [if_neg z] at w; exact w.elim
    obtain ⟨k1, k2⟩ := ok τ.b μ2 F2 h2 H2 Eg R2 hkp i
    by_cases hlt : i < ds.length
    · obtain ⟨go, yl⟩ := k1 hlt
      refine .inr ⟨go, fun H' => i + 1 ≤ ds.length ∧ ∃ μ2 F2 h2 ws acc, Ext τ.b μ F H h μ2 F2 H' h2 ∧ Ext τ.b μ1 F1 H1 h1 μ2 F2 H' h2 ∧ RelH ca μ2 F2 h2 H' ∧ H' D = some (.dK ws) ∧ ws.map (·.1) = acc.map (·.1) ∧ VRs ca μ2 F2 (ws.map (·.2)) (acc.map (·.2)) ∧ D ∉ μ2 ∧ F2 D = none ∧
          PostG ca τ.b μ F H h (dcGo kp g t kx vx τ.b (Z.clr vs τ.s) (ds.drop (i + 1)) h2 acc) (wx ca W σ) fun r μ1 F1 H1 _ => ∀ v, RR ca μ1 F1 H H1 v r → Q v H1,
        fun H' z => ⟨ds.length - (i + 1), by omega, rfl, z.1, z.2⟩, fun y H3 yy => ?_⟩
      obtain ⟨F3, d, ed, E3, R3, V3⟩ := yl y H3 yy
      have E3' := E3 τ.b
      -- what stays of the new list through a step
      have stay : ∀ {μ4 : List Addr} {F4 H4 : Hp} {h4 : Own}, Ext τ.b μ2 F2 H2 h2 μ4 F4 H4 h4 → H4 D = some (.dK ws) ∧ D ∉ μ4 ∧ F4 D = none := fun {μ4 F4 H4 h4} E => by
        refine ⟨E.frame D _ q2 nM, fun z => ?_, ?_⟩
        · obtain ⟨m, e1, e2⟩ := E.pre
          rw [e1] at z
          rcases List.mem_append.mp z with z | z
          · exact nM z
          · rw [e2 D z] at q2; cases q2
        · cases q : F4 D with
          | none => rfl
          | some u =>
            rcases E.newF D (by rw [q]; simp) with z | z | z | ⟨_, z⟩ | ⟨_, z⟩
            · exact absurd nF z
            · exact absurd z nM
            · rw [z] at q2; cases q2
            · rw [z] at q2; cases q2
            · rw [z] at q2; unfold LamX.CodeO at q2; cases q2
      have hd : ds.drop i = d :: ds.drop (i + 1) := by
        rw [List.drop_eq_getElem_cons hlt]
        congr 1
        exact Option.some.inj ((List.getElem?_eq_getElem hlt).symm.trans ed)
      rw [hd, dcGo, if_pos hkp] at w
      have hbl : τ.b ≤ h2.length := Nat.le_trans A.bl (E2.len A.rel R2)
      have S3 : SR ca μ2 F3 (Z.clr vs τ.s) (L2.wipe σ vs) := SR.wipe (E3'.sr (E2.sr A.sl)) vs
      cases hgd : g d ⟨τ.b, Z.clr vs τ.s⟩ h2 with
      | next s4 h4 =>
        rw [hgd] at w
        dsimp only at w
        refine ⟨μ2, F3, ⟨τ.b, Z.clr vs τ.s⟩, h2, d, ⟨R3, S3, hbl⟩, V3, s4, h4, hgd, fun μ4 F4 H4 σ4 E4 R4 S4 w4 => ⟨?_, ?_⟩⟩
        · rw [w4]
          apply List.ext_getElem?
          intro j
          rw [wipe_get, wipe_get, wipe_length]
          by_cases hj : j ∈ vs ∧ j < σ.length
          · rw [if_pos hj, if_pos hj]
          · rw [if_neg hj, if_neg hj]
        · have bl4 : τ.b ≤ h4.length := Nat.le_trans hbl (E4.len R3 R4)
          refine ⟨μ4, F4, ⟨τ.b, s4⟩, h4, ⟨R4, S4, bl4⟩, ?_⟩
          cases ht : t ⟨τ.b, s4⟩ h4 with
          | stuck => rw [ht] at w; exact w.elim
          | exc c h5 => rw [ht] at w; exact w.elim
          | ok k h5 =>
            rw [ht] at w
            intro μ5 F5 H5 E5 R5
            have bl5 : τ.b ≤ h5.length := Nat.le_trans bl4 (E5.len R4 R5)
            cases k with
            | false =>
              dsimp only at w
              obtain ⟨z1, z2, z3⟩ := stay (E3'.trans (E4.trans E5))
              exact ⟨hlt, μ5, F5, h5, ws, acc, E2.trans (E3'.trans (E4.trans E5)), Eg.trans (E3'.trans (E4.trans E5)), R5, z1, K2, (E3'.trans (E4.trans E5)).vrs V2, z2, z3, w⟩
            | true =>
              dsimp only at w
              show rdD ca W0 kx σ4 H5 _
              refine ⟨μ5, F5, ⟨τ.b, s4⟩, h5, ⟨R5, E5.sr S4, bl5⟩, ?_⟩
              cases hx : kx ⟨τ.b, s4⟩ h5 with
              | stuck => rw [hx] at w; exact w.elim
              | exc c h6 => rw [hx] at w; exact w.elim
              | ok y6 h6 =>
                rw [hx] at w
                dsimp only at w
                intro μ6 F6 H6 E6 R6 v6 V6
                have bl6 : τ.b ≤ h6.length := Nat.le_trans bl5 (E6.len R5 R6)
                show rdD ca W0 vx σ4 H6 _
                refine ⟨μ6, F6, ⟨τ.b, s4⟩, h6, ⟨R6, E6.sr (E5.sr S4), bl6⟩, ?_⟩
                cases hy : vx ⟨τ.b, s4⟩ h6 with
                | stuck => rw [hy] at w; exact w.elim
                | exc c h7 => rw [hy] at w; exact w.elim
                | ok z7 h7 =>
                  rw [hy] at w
                  dsimp only at w
                  cases ek : asK y6 with
                  | none => rw [ek] at w; exact w.elim
                  | some kk =>
                    rw [ek] at w
                    dsimp only at w
                    have evk := asK_ok V6 ek
                    by_cases hl : acc.length < sizeLine
                    · rw [if_pos hl] at w
                      intro μ7 F7 H7 E7 R7 v7 V7
                      have Ea := E3'.trans (E4.trans (E5.trans (E6.trans E7)))
                      obtain ⟨z1, z2, z3⟩ := stay Ea
                      have hlen : ws.length = acc.length := by simpa using congrArg List.length K2
                      obtain ⟨p1, p2⟩ := vr_put kk V7 K2 (Ea.vrs V2)
                      exact ⟨ws, kk, evk, z1, by rw [hlen]; exact hl, hlt, μ7, F7, h7, putK ws kk v7, putD acc kk z7, (E2.trans Ea).updFree hD0, (Eg.trans Ea).updFree hD, R7.updFree z2 z3, upd_same, p1, p2, z2, z3, w⟩
                    · rw [if_neg hl] at w; exact w.elim
      | _ => rw [hgd] at w; exact w.elim
    · refine .inl ⟨k2 (by omega), ?_⟩
      rw [List.drop_eq_nil_of_le (by omega), dcGo, if_pos hkp] at w
      exact w μ2 F2 H2 E2 R2 (.ref D) ⟨D, rfl, hD0, by rw [q2]; simp, nM, nF, ws, q2, K2, V2⟩
theorem se_dc {kx vx tg iter : Expr} {ifs : List Expr} {scope : Scope} {own : List (Str × Nat)} {it : EI} {g : ET} {t : EB} {xk xv : ED} (hc : X.calm = true) (hN : X.N.Nodup) (hi : SI ca X W tg iter it) (ok : BlkOk X.N X.env.scope scope own)
    (hg : ∀ (s : Shared) (H : Hp) (C : Addr) (cl : List (Str × Addr)) (fp : List Addr), SGw ca (X.blk s H scope (compEnvC scope cl C X.env) fp) (own.map (·.2)) tg g) (ht : ∀ (s : Shared) (H : Hp) (C : Addr) (cl : List (Str × Addr)) (fp : List Addr), STs ca (X.blk s H scope (compEnvC scope cl C X.env) fp) ifs t)
    (hk : ∀ (s : Shared) (H : Hp) (C : Addr) (cl : List (Str × Addr)) (fp : List Addr), SD ca (X.blk s H scope (compEnvC scope cl C X.env) fp) W0 kx xk)
    (he : ∀ (s : Shared) (H : Hp) (C : Addr) (cl : List (Str × Addr)) (fp : List Addr), SD ca (X.blk s H scope (compEnvC scope cl C X.env) fp) W0 vx xv) (hs : ∀ x, foldedSetIterable iter X.env x = pure x) :
    SE ca X W (.DictComp kx vx [⟨tg, iter, ifs, 0⟩] scope pos) (eDC it g t xk xv (own.map (·.2))) := PE.imp (pe_dc hc hN hi ok hg ht hk he hs) fun σ H Q h => dc_rd (wi := rdI ca W it) h
end
/-! ### d.update(d2) -/
def rDUpd : V → List V → Hp → VK → Prop := fun x vs H Q => ∃ d o kvs more, x = .ref d ∧ vs = [.ref o] ∧ d ≠ o ∧ H d = some (.dK kvs) ∧ Rd H o (.dK more) ∧ kvs.length + more.length ≤ sizeLine ∧ Q .non (upd H d (.dK (mergeK kvs more)))
theorem mt_dupd {X : Cx} : MtR X "dict.update" rDUpd := by
  intro pins s σ H x vs v us Q I rx rv h
  obtain ⟨d, o, kvs, more, rfl, rfl, hne, hd, ho, hl, q⟩ := h
  cases rx
  rw [Vals.ref1 rv]
  obtain ⟨z1, g1, vs1, r1, d1⟩ := dk_of I.hok hd
  obtain ⟨z2, g2, vs2, r2, d2⟩ := dk_rd I.hok ho
  refine call_meetsIn PySem.F.slot_dict_update d1.typeIs PySem.F.entry_dict_update (PySem.F.args_dict_update_2 _ _) (meets_dict_update (mixKind X.prog X.w) d o hne g2) ⟨vs1, vs2, d1, d2, by rw [← r1.length, ← r2.length]; exact hl, fun h' m _ hs => ?_⟩
  have he : ∃ q, h'.get? d = some q := let ⟨q, _, _, hq, _⟩ := m; ⟨q, hq⟩
  have hz : (mergeK kvs more).length ≤ sizeLine := Nat.le_trans (length_mergeK more kvs) hl
  exact ⟨.non, _, d_write (t' := s.toks) I (by rw [hd]; exact True.intro) hs he (dk_new hz g1 (r2.merge r1) m), rfl, q⟩
section
variable {ca : Cn}
def fUpd : FM := fun d xs b h => match d, xs with
  | .ref n, [.dK more] => match h[n]? with
    | some (.dK kds) => if kds.length + more.length ≤ sizeLine then (match putO h b n (.dK (mergeD kds more)) with
      | some h' => .ok (.v .non) h'
      | none => .stuck) else .stuck
    | _ => .stuck
  | _, _ => .stuck
theorem lk_upd : LkM ca fUpd rDUpd := fun b μ F H h Wx x d vs ds Q R V1 Vs _ p => by
  unfold fUpd at p
  split at p
  · rename_i n more
    obtain ⟨v, rfl, Vr⟩ := Vs.one
    cases V1 with
    | @ref a n en =>
      cases Vr with
      | @dK o kvs2 kds2 q2 k2 r2 =>
        split at p
        · rename_i kds e0
          obtain ⟨kvs, q1, k1, r1⟩ := R.ob n _ _ en e0
          have l1 : kvs.length = kds.length := by simpa using congrArg List.length k1
          have l2 : kvs2.length = more.length := by simpa using congrArg List.length k2
          by_cases hl : kds.length + more.length ≤ sizeLine
          · rw [if_pos hl] at p
            cases e3 : putO h b n (.dK (mergeD kds more)) with
            | none => rw [e3] at p; exact p.elim
            | some h' =>
              rw [e3] at p
              have hne : a ≠ o := by
                rintro rfl
                have := R.sep n a _ en e0 (fun z => nomatch z)
                rw [q2] at this
                cases this
              obtain ⟨w1, w2⟩ := merge_ok k2 r2 k1 r1
              obtain ⟨R2, E2⟩ := put_ok R en e0 rfl e3 (u := .dK (mergeK kvs kvs2)) fun H' q => ⟨_, q, w1, w2⟩
              exact ⟨a, o, kvs, kvs2, rfl, rfl, hne, q1, Rd.of (R.fz _ _ q2), by rw [l1, l2]; exact hl, p μ F _ E2 R2 _ (show VR ca _ _ _ _ from .non)⟩
          · rw [if_neg hl] at p; exact p.elim
        · exact p.elim
  · exact p.elim
end
end Z
set_option Elab.async false
set_option linter.all false
set_option maxRecDepth 100000
/-! Z24: what is known of an exception class of the program's own. -/
namespace Z
open PySem PySem.Spec L2
structure ExFC (K : PySem.W.Frag) (mg : Str → Option Value) (x : Str) (C : Addr) : Prop where
  g : mg x = some (.ref C)
  ex : PySem.W.excIn K C [.type "ValueError", .type "Exception", .type "BaseException", .type "object"] "ValueError.__new__" = true
  kp : PySem.W.keepIn K (.ref C) = true
  b : PySem.W.subIn K (.ref C) (.type "BaseException") = some true
  t : PySem.W.typeIn K (.ref C) = some (.type "type")
  em : PySem.W.exmOne K (.ref C) (.ref C) = some true
abbrev ExF (K : PySem.W.Frag) (mg : Str → Option Value) (ca : Cn) (x : Str) (c : Nat) : Prop := ExFC K mg x (ca.ad c)
theorem exm_self' {K : PySem.W.Frag} {C : Addr} (b : PySem.W.subIn K (.ref C) (.type "BaseException") = some true) (i : PySem.W.isClsIn K C = true) (t : PySem.W.typeIn K (.ref C) = some (.type "type")) (s : PySem.W.subIn K (.ref C) (.ref C) = some true) :
    PySem.W.exmOne K (.ref C) (.ref C) = some true := by
  have i' : (PySem.W.clsIn K C).isSome = true := i
  have z1 : (PySem.W.subIn K (.ref C) (.type "BaseException") == some true) = true := by rw [b]; rfl
  have z2 : ((PySem.W.clsIn K C).isSome && PySem.W.typeIn K (.ref C) == some (.type "type")) = true := by rw [i', t]; rfl
  unfold PySem.W.exmOne
  rw [if_pos z1]
  exact (if_pos z2).trans s
end Z
set_option Elab.async false
set_option linter.all false
set_option maxRecDepth 100000
/-! Z25: numbers, words, draws, dicts of marks: what holds of no program alone. -/
namespace Z
open PySem PySem.Spec L2
abbrev nD (n : Nat) : D := .int (n : Int)
abbrev wD (w : List Nat) : D := .tup (w.map nD)
@[simp] theorem nrf_nDs : ∀ w : List Nat, nrfs (w.map nD) = true
  | [] => rfl
  | _ :: w => by rw [List.map_cons, nrfs, nrf_nDs w]; rfl
@[simp] theorem nrf_wD (w : List Nat) : nrf (wD w) = true := by rw [wD, nrf, nrf_nDs]
@[simp] theorem nrf_wDs : ∀ w : List (List Nat), nrfs (w.map wD) = true
  | [] => rfl
  | _ :: w => by rw [List.map_cons, nrfs, nrf_wDs w, nrf_wD]; rfl
@[simp] theorem flat_nDs : ∀ w : List Nat, (w.map nD).all flatD = true
  | [] => rfl
  | _ :: w => by rw [List.map_cons, List.all_cons, flat_nDs w]; rfl
theorem anyD (w : List Nat) (n : Nat) : ((w.map nD).any fun z => eqD z (nD n)) = w.contains n := by
  induction w with
  | nil => rfl
  | cons a w ih =>
    rw [List.map_cons, List.any_cons, ih, List.contains_cons]
    congr 1
    show ((a : Int) == (n : Int)) = (n == a)
    rw [Bool.eq_iff_iff]
    simp
    omega
theorem ix_w {w : List Nat} {n a : Nat} (h : Own) (e : w[n]? = some a) : fIx (wD w) (nD n) h = .ok (.v (nD a)) h :=
  fIx_q (ds := w.map nD) rfl rfl (by rw [List.getElem?_map, e]; rfl)
theorem ix_L {L : List (List Nat)} {n : Nat} {a : List Nat} (h : Own) (e : L[n]? = some a) : fIx (.tup (L.map wD)) (nD n) h = .ok (.v (wD a)) h :=
  fIx_q (ds := L.map wD) rfl rfl (by rw [List.getElem?_map, e]; rfl)
theorem ix_Ll {L : List (List Nat)} {n : Nat} {a : List Nat} (h : Own) (e : L[n]? = some a) : fIx (.lst (L.map wD)) (nD n) h = .ok (.v (wD a)) h :=
  fIx_q (ds := L.map wD) rfl rfl (by rw [List.getElem?_map, e]; rfl)
theorem ix_q {d : D} {w : List Nat} {n a : Nat} (h : Own) (q : asQ h d = some (w.map nD)) (e : w[n]? = some a) : fIx d (nD n) h = .ok (.v (nD a)) h :=
  fIx_q q rfl (by rw [List.getElem?_map, e]; rfl)

def has (w : List Nat) (n : Nat) : Bool := w.contains n
theorem has_iff {w : List Nat} {n : Nat} : has w n = true ↔ n ∈ w := by simp [has]
@[simp] theorem fIn_w (w : List Nat) (n : Nat) (h : Own) : fIn (nD n) (wD w) h = .ok (.v (.bl (has w n))) h := by
  rw [fIn_q (ds := w.map nD) rfl rfl (flat_nDs w), anyD]; rfl
@[simp] theorem fNotIn_w (w : List Nat) (n : Nat) (h : Own) : fNotIn (nD n) (wD w) h = .ok (.v (.bl (!has w n))) h := by
  rw [fNotIn_q (ds := w.map nD) rfl rfl (flat_nDs w), anyD]; rfl
theorem fIn_q' {w : List Nat} {d : D} (n : Nat) (h : Own) (e : asQ h d = some (w.map nD)) : fIn (nD n) d h = .ok (.v (.bl (has w n))) h := by
  rw [fIn_q e rfl (flat_nDs w), anyD]; rfl
theorem any_take_succ {α : Type} (p : α → Bool) {w : List α} {k : Nat} (hk : k < w.length) : (w.take (k + 1)).any p = ((w.take k).any p || p w[k]) := by
  rw [List.take_succ_eq_append_getElem hk, List.any_append]
  simp
theorem range_filter_succ (p : Nat → Bool) (k : Nat) : (List.range (k + 1)).filter p = if p k then (List.range k).filter p ++ [k] else (List.range k).filter p := by
  rw [List.range_succ, List.filter_append]
  cases h : p k <;> simp [h]
theorem toP_nDs (k : Nat) : ∀ w : List Nat, (w.map nD).mapM (toP k) = some (w.map fun n : Nat => PyData.int (n : Int))
  | [] => rfl
  | a :: w => by
    rw [List.map_cons, List.mapM_cons, toP_nDs k w]
    have : toP k (nD a) = some (.int (a : Int)) := by cases k <;> rfl
    rw [this]
    rfl
theorem eqvAll_nats : ∀ u v : List Nat, PyData.eqvAll (u.map fun n : Nat => PyData.int (n : Int)) (v.map fun n : Nat => PyData.int (n : Int)) = decide (u = v)
  | [], [] => by simp [PyData.eqvAll]
  | [], b :: v => by simp [PyData.eqvAll]
  | a :: u, [] => by simp [PyData.eqvAll]
  | a :: u, b :: v => by
    rw [List.map_cons, List.map_cons, PyData.eqvAll, eqvAll_nats u v, PyData.eqv]
    rw [Bool.eq_iff_iff]
    simp
    intro _
    omega
theorem toPh_wD (w : List Nat) (h : Own) : toPh h (wD w) = some (.tuple (w.map fun n : Nat => PyData.int (n : Int))) := by
  show ((w.map nD).mapM (toP 7)).map PyData.tuple = _
  rw [toP_nDs]
  rfl
theorem fEq_w (u v : List Nat) (h : Own) : fEq (wD u) (wD v) h = .ok (.v (.bl (decide (u = v)))) h := by
  unfold fEq fEqN
  rw [toPh_wD, toPh_wD]
  simp [PyData.eqv, eqvAll_nats]
theorem fNe_w (u v : List Nat) (h : Own) : fNe (wD u) (wD v) h = .ok (.v (.bl (!decide (u = v)))) h := by
  unfold fNe fEqN
  rw [toPh_wD, toPh_wD]
  simp [PyData.eqv, eqvAll_nats]
theorem downD_eq (n : Nat) : downD ((n : Int) - 1) n = (List.range n).map fun k : Nat => D.int ((n - 1 - k : Nat) : Int) := by
  unfold downD
  apply List.map_congr_left
  intro k hk
  have := List.mem_range.mp hk
  congr 1
  omega
theorem asB_bls : ∀ bs : List Bool, asB (bs.map D.bl) = some bs
  | [] => rfl
  | b :: bs => by rw [List.map_cons, asB, asB_bls bs]; rfl
theorem fAny_bls (bs : List Bool) (h : Own) : fAny [.lst (bs.map .bl)] h = .ok (.v (.bl (bs.any id))) h := by
  unfold fAny fBls
  simp [asB_bls]
theorem fAll_bls (bs : List Bool) (h : Own) : fAll [.lst (bs.map .bl)] h = .ok (.v (.bl (bs.all id))) h := by
  unfold fAll fBls
  simp [asB_bls]
theorem len_filter_pos (p : Nat → Bool) (w : List Nat) : decide ((0 : Int) < (w.filter p).length) = w.any p := by
  rw [Bool.eq_iff_iff, decide_eq_true_eq, List.any_eq_true]
  constructor
  · intro h
    have h0 : 0 < (w.filter p).length := by omega
    obtain ⟨x, hx⟩ := List.exists_mem_of_length_pos h0
    rw [List.mem_filter] at hx
    exact ⟨x, hx.1, hx.2⟩
  · rintro ⟨x, hx, hp⟩
    have : x ∈ w.filter p := List.mem_filter.mpr ⟨hx, hp⟩
    have := List.length_pos_of_mem this
    omega
theorem fNe_nn {a b : Nat} {h : Own} : fNe (nD a) (nD b) h = .ok (.v (.bl (!decide (a = b)))) h := by
  rw [fNe_ii]
  congr 4
  rw [decide_eq_decide]
  omega
def iL (ds : List Int) : O := .lst (ds.map .int)
theorem nrf_ints : ∀ ds : List Int, nrfs (ds.map D.int) = true
  | [] => rfl
  | _ :: ds => by rw [List.map_cons, nrfs, nrf_ints ds]; rfl
theorem nrf_iL (ds : List Int) : nrfO (iL ds) = true := by rw [iL, nrfO, nrf_ints]
/-- at d the draws lie -/
def Dr (h : Own) (d : Nat) (ds : List Int) : Prop := h[d]? = some (iL ds)
/-- the heap H goes on from h, but for the draws at d -/
structure Dq (h : Own) (d : Nat) (H : Own) : Prop where
  lt : d < h.length
  ex : ∃ ds l, H = h.set d (iL ds) ++ l
theorem Dq.dr {h H : Own} {d : Nat} (D : Dq h d H) : ∃ ds, Dr H d ds := by
  obtain ⟨ds, l, rfl⟩ := D.ex
  refine ⟨ds, ?_⟩
  unfold Dr
  rw [hp_getl (by simpa using D.lt)]
  simp [D.lt]
theorem Dq.le {h H : Own} {d : Nat} (D : Dq h d H) : h.length ≤ H.length := by
  obtain ⟨ds, l, rfl⟩ := D.ex
  simp
theorem set_self {h : Own} {d : Nat} {o : O} (e : h[d]? = some o) : h.set d o = h := by
  have hlt : d < h.length := (List.getElem?_eq_some_iff.mp e).1
  apply List.ext_getElem?
  intro i
  rw [List.getElem?_set]
  split
  · rename_i q; subst q; simp [hlt]; exact (Option.some.inj ((List.getElem?_eq_getElem hlt).symm.trans e)).symm
  · rfl
theorem Dq.refl {h : Own} {d : Nat} {ds : List Int} (D : Dr h d ds) : Dq h d h :=
  ⟨(List.getElem?_eq_some_iff.mp D).1, ds, [], by rw [set_self D]; simp⟩
theorem Dq.set {h H : Own} {d n : Nat} (D : Dq h d H) (hn : h.length ≤ n) (o : O) : Dq h d (H.set n o) := by
  obtain ⟨ds, l, rfl⟩ := D.ex
  refine ⟨D.lt, ds, l.set (n - h.length) o, ?_⟩
  rw [List.set_append, if_neg (by simp; omega)]
  simp
theorem Dq.push {h H : Own} {d : Nat} (D : Dq h d H) (o : O) : Dq h d (H ++ [o]) := by
  obtain ⟨ds, l, rfl⟩ := D.ex
  exact ⟨D.lt, ds, l ++ [o], by simp⟩
theorem Dq.cut {h H : Own} {d : Nat} (D : Dq h d H) : ∃ ds, H.take h.length = h.set d (iL ds) := by
  obtain ⟨ds, l, rfl⟩ := D.ex
  exact ⟨ds, by simp⟩
theorem call_x {G : BD} {as : List D} {h : Own} {Pr : D → Own → Prop} (e : W (G h.length as h) fun r => ∃ d h1, r = .ret (.v d) h1 ∧ nrf d = true ∧ Pr d h1) : ∃ d h1, Pr d h1 ∧ callB G as h = .ok (.v d) (h1.take h.length) := by
  obtain ⟨d, h1, e, nd, p⟩ := e
  refine ⟨d, h1, p, ?_⟩
  unfold callB
  rw [e]
  show exitR h.length (.v d) h1 = _
  unfold exitR
  cases d <;> first | (cases nd; done) | (dsimp only; rw [if_pos nd])
theorem call_xr {G : BD} {as : List D} {h : Own} {Pr : O → Own → Prop} (e : W (G h.length as h) fun r => ∃ m o h1, r = .ret (.v (.ref m)) h1 ∧ h.length ≤ m ∧ h1[m]? = some o ∧ nrfO o = true ∧ notDead o = true ∧ Pr o h1) : ∃ o h1, Pr o h1 ∧ callB G as h = .ok (.n o) (h1.take h.length) := by
  obtain ⟨m, o, h1, e, hm, e2, n1, n2, p⟩ := e
  refine ⟨o, h1, p, ?_⟩
  unfold callB
  rw [e]
  show exitR h.length (.v (.ref m)) h1 = _
  unfold exitR
  dsimp only
  rw [if_neg (by omega), e2]
  dsimp only
  rw [if_pos ⟨n1, n2⟩]
def kd (cs : List Nat) : List (Key × D) := cs.map fun c : Nat => (Sum.inl (c : Int), D.bl true)
theorem putD_kd (cs : List Nat) (c : Nat) : putD (kd cs) (Sum.inl (c : Int) : Key) (.bl true) = kd (if c ∈ cs then cs else cs ++ [c]) := by
  have h1 : ((kd cs).any fun p => decide (p.1 = (Sum.inl (c : Int) : Key))) = decide (c ∈ cs) := by
    unfold kd
    rw [List.any_map, Bool.eq_iff_iff, List.any_eq_true, decide_eq_true_eq]
    constructor
    · rintro ⟨x, hx, e⟩
      have : (x : Int) = c := by simpa using e
      have : x = c := by omega
      exact this ▸ hx
    · exact fun hx => ⟨c, hx, by simp⟩
  unfold putD
  rw [h1]
  by_cases hc : c ∈ cs
  · rw [if_pos (by simpa using hc), if_pos hc]
    unfold kd
    rw [List.map_map]
    apply List.map_congr_left
    intro x _
    simp only [Function.comp]
    split
    · rename_i e; rw [e]
    · rfl
  · rw [if_neg (by simpa using hc), if_neg hc]
    unfold kd
    simp
theorem isort_nat (cs : List Nat) (nd : cs.Nodup) : ∃ l : List Nat, isort (cs.map fun c : Nat => (c : Int)) = l.map (fun c : Nat => (c : Int)) ∧ l.Perm cs ∧ l.Pairwise (· < ·) := by
  refine ⟨cs.mergeSort (· ≤ ·), ?_, List.mergeSort_perm _ _, ?_⟩
  · symm
    apply isort_uniq
    · exact (List.mergeSort_perm _ _).map _
    · have := List.pairwise_mergeSort (le := fun a b : Nat => decide (a ≤ b)) (fun a b c h1 h2 => by simp at *; omega) (fun a b => by simp; omega) cs
      rw [List.pairwise_map]
      exact this.imp fun h => by simp at h; omega
  · have h1 := List.pairwise_mergeSort (le := fun a b : Nat => decide (a ≤ b)) (fun a b c h1 h2 => by simp at *; omega) (fun a b => by simp; omega) cs
    have h2 : (cs.mergeSort (· ≤ ·)).Nodup := (List.mergeSort_perm _ _).nodup_iff.mpr nd
    have h3 := h1.and h2
    exact h3.imp fun ⟨a, b⟩ => by simp at a; omega
@[simp] theorem pNil_eq {τ : Fm} {h : Own} : pNil τ h = .ok [] h := rfl
@[simp] theorem pCons_eq {k v : ED} {r : EPs} {τ : Fm} {h : Own} : pCons k v r τ h = (k τ h).bind fun kd h1 => (v τ h1).bind fun d h2 => (r τ h2).bind fun ps h3 => match asK kd with
  | some kk => .ok ((kk, d) :: ps) h3
  | none => .stuck := by
  unfold pCons
  rfl
@[simp] theorem eDisp_eq {ps : EPs} {τ : Fm} {h : Own} : eDisp ps τ h = (ps τ h).bind fun kds h1 => if kds.length ≤ 15 then .ok (.n (.dK (mergeD [] kds))) h1 else .stuck := rfl
@[simp] theorem asK_int {i : Int} : asK (.int i) = some (Sum.inl i) := rfl
@[simp] theorem sPut_eq {o i x : ED} {τ : Fm} {h : Own} : sPut o i x τ h = sE x (fun v τ h => sE o (fun d τ h => sE i (fun k τ h => match fPut τ.b d k v h with
  | some h1 => .next τ.s h1
  | none => .stuck) τ h) τ h) τ h := by
  unfold sPut
  rfl
theorem get_set_ne {H : Own} {n m : Nat} {o : O} (h : n ≠ m) : (H.set n o)[m]? = H[m]? := by rw [List.getElem?_set, if_neg h]
theorem get_set_self {H : Own} {n : Nat} {o : O} (h : n < H.length) : (H.set n o)[n]? = some o := by rw [List.getElem?_set]; simp [h]
theorem lt_of_get {H : Own} {n : Nat} {o : O} (h : H[n]? = some o) : n < H.length := (List.getElem?_eq_some_iff.mp h).1
theorem get_push {H : Own} {n : Nat} {o x : O} (h : H[n]? = some o) : (H ++ [x])[n]? = some o := by rw [List.getElem?_append_left (lt_of_get h)]; exact h
theorem fMulA_r {i j : Int} {h : Own} (hj : -(2 ^ 64) < j ∧ j < 2 ^ 64) : fMulA (.int i) (.int j) h = .ok (.v (.int (i * j))) h := by
  have hc : (decide (-(2 ^ 64) < i ∧ i < 2 ^ 64) || decide (-(2 ^ 64) < j ∧ j < 2 ^ 64)) = true := by
    rw [decide_eq_true hj, Bool.or_true]
  have e1 : fMul (.int i) (.int j) h = .ok (.v (.int (i * j))) h := by
    unfold fMul fIc
    dsimp only
    rw [if_pos hc]
  show (match fMul (.int i) (.int j) h with | .stuck => fRepL (.int i) (.int j) h | z => z) = _
  rw [e1]
theorem small64 {j : Int} (h1 : -1000000000000 < j) (h2 : j < 1000000000000) : -(2 ^ 64) < j ∧ j < 2 ^ 64 := by
  simp only [Int.reducePow]
  omega
theorem fPut_lst {H : Own} {b n : Nat} {xs : List Z.D} {k : Nat} {v : Z.D} (hb : b ≤ n) (hk : k < xs.length) (e : H[n]? = some (.lst xs)) : fPut b (.ref n) (.int (k : Int)) v H = some (H.set n (.lst (xs.set k v))) := by
  unfold fPut
  simp only [e, ixN_nat hk]
  rw [putO_own hb]
theorem take_set {H : Own} {n m : Nat} {o : O} (h : n ≤ m) : (H.set m o).take n = H.take n := by
  rw [List.take_set]
  apply List.set_eq_of_length_le
  rw [List.length_take]
  omega
theorem W_imp {x : SRes} {Q Q' : SRes → Prop} (h : W x Q) (i : ∀ r, Q r → Q' r) : W x Q' := i _ h
@[simp] theorem fIsN_nn {i : Int} {b : Bool} {h : Own} : isN (.int i) = false := rfl
@[simp] theorem isN_str {z : Str} : isN (.str z) = false := rfl
@[simp] theorem isN_tup {z : List Z.D} : isN (.tup z) = false := rfl
@[simp] theorem tyD_int {h : Own} {i : Int} : tyD h (.int i) = some "int" := rfl
@[simp] theorem tyD_str {h : Own} {i : Str} : tyD h (.str i) = some "str" := rfl
@[simp] theorem tyD_tup {h : Own} {i : List Z.D} : tyD h (.tup i) = some "tuple" := rfl
theorem fEq_bb {a b : Bool} {h : Own} : fEq (.bl a) (.bl b) h = .ok (.v (.bl (a == b))) h := by
  show Res.ok (R.v (.bl (PyData.eqv (.bool a) (.bool b)))) h = _
  simp [PyData.eqv]
theorem fNe_bb {a b : Bool} {h : Own} : fNe (.bl a) (.bl b) h = .ok (.v (.bl (!(a == b)))) h := by
  show Res.ok (R.v (.bl (!PyData.eqv (.bool a) (.bool b)))) h = _
  simp [PyData.eqv]
theorem fEq_ss {z : Str} (hz : PyData.strOk z = true) {h : Own} : fEq (.str z) (.str z) h = .ok (.v (.bl true)) h := by
  have e : toPh h (.str z) = some (.str z) := by
    show (if PyData.strOk z = true then some (PyData.str z) else none) = _
    rw [if_pos hz]
  unfold fEq fEqN
  rw [e]
  simp [PyData.eqv]
theorem W_seq' {a b : ST} {τ : Fm} {h : Own} {Q : SRes → Prop} (k : ∀ R : ST, R = b → W (a τ h) (Th R τ.b Q)) : W (sSeq a b τ h) Q := by
  rw [W_seq]
  exact k b rfl
@[simp] theorem frzO_ins {c : Nat} {fs : List Z.D} : frzO (.ins c fs) = some (.obj c fs) := rfl
theorem fNe_ss {z : Str} (hz : PyData.strOk z = true) {h : Own} : fNe (.str z) (.str z) h = .ok (.v (.bl false)) h := by
  have e : toPh h (.str z) = some (.str z) := by
    show (if PyData.strOk z = true then some (PyData.str z) else none) = _
    rw [if_pos hz]
  unfold fNe fEqN
  rw [e]
  simp [PyData.eqv]
theorem asI_ints : ∀ ns : List Int, asI (ns.map Z.D.int) = some ns
  | [] => rfl
  | n :: ns => by rw [List.map_cons, asI, asI_ints ns]; rfl
theorem lmax_some : ∀ {ns : List Int}, ns ≠ [] → ∃ m, lmax ns = some m
  | [], h => absurd rfl h
  | n :: ns, _ => by
    rw [lmax]
    cases lmax ns with
    | none => exact ⟨n, rfl⟩
    | some m => exact ⟨_, rfl⟩
theorem fMax_ints {ns : List Int} {m : Int} (h1 : m ∈ ns) (h2 : ∀ y ∈ ns, y ≤ m) (h : Own) : fMax [.lst (ns.map .int)] h = .ok (.v (.int m)) h := by
  obtain ⟨k, hk⟩ := lmax_some (ns := ns) (by rintro rfl; cases h1)
  have hk2 := lmax_ok hk
  have : k = m := Int.le_antisymm (h2 k hk2.1) (hk2.2 m h1)
  subst this
  unfold fMax fInts
  simp [asI_ints, hk]
theorem Dr.set {H : Own} {ds ds' : List Int} (h : Dr H 0 ds) : Dr (H.set 0 (iL ds')) 0 ds' := get_set_self (lt_of_get h)
theorem fPut_kd' {H : Own} {b n : Nat} {cs : List Nat} {c : Nat} (hb : b ≤ n) (hl : cs.length ≤ 1000) (e : H[n]? = some (.dK (kd cs))) : fPut b (.ref n) (nD c) (.bl true) H = some (H.set n (.dK (kd (if c ∈ cs then cs else cs ++ [c])))) := by
  unfold fPut
  simp only [e, asK_int]
  have hk : (kd cs).length < sizeLine := by unfold kd; rw [List.length_map]; exact szl (by omega)
  rw [if_pos hk, putO_own hb, putD_kd]
theorem items_kd (gs : List Nat) : ((kd gs).map fun p => kD p.1) = gs.map nD := by
  unfold kd
  rw [List.map_map]
  rfl
@[simp] theorem iKey_eq {x : ED} {τ : Fm} {h : Own} : iKey x τ h = (x τ h).bind fun d h1 => match d with
  | .ref n => match h1[n]? with
    | some (.lkK kds) => .ok (kds.map fun p => kD p.1, some (n, .lkK kds)) h1
    | some (.lkT kds) => .ok (kds.map fun p => .tup (p.1.map kD), some (n, .lkT kds)) h1
    | _ => .stuck
  | _ => .stuck := by
  unfold iKey
  rfl
theorem getD_kd (gs : List Nat) (k : Nat) : getD (kd gs) (Sum.inl (k : Int) : Key) = if k ∈ gs then some (.bl true) else none := by
  induction gs with
  | nil => rfl
  | cons g gs ih =>
    unfold getD kd at ih ⊢
    rw [List.map_cons, List.find?_cons]
    by_cases h : g = k
    · subst h
      simp
    · have : ((Sum.inl (g : Int) : Key) = Sum.inl (k : Int)) = False := by
        simp
        omega
      simp only [this, decide_false]
      rw [ih]
      have h' : k ≠ g := Ne.symm h
      simp [h']
theorem notIn_kd {H : Own} {n k : Nat} {gs : List Nat} (e : H[n]? = some (.dK (kd gs))) : fNotIn (nD k) (.ref n) H = .ok (.v (.bl (!gs.contains k))) H := by
  have h1 : fInQ true (nD k) (.ref n) H = .stuck := by
    unfold fInQ asQ asL
    simp [e]
  have h2 : fInK true (nD k) (.ref n) H = .ok (.v (.bl (!gs.contains k))) H := by
    unfold fInK askD asD
    have g := getD_kd gs k
    by_cases h : k ∈ gs
    · rw [if_pos h] at g
      simp [e, g, h]
    · rw [if_neg h] at g
      simp [e, g, h]
  show (match fInQ true (nD k) (.ref n) H with | .stuck => _ | z => z) = _
  rw [h1]
  dsimp only
  show (match fInK true (nD k) (.ref n) H with | .stuck => _ | z => z) = _
  rw [h2]
theorem W_step {a b : ST} {τ : Fm} {h h' : Own} {s' : Sl} {Q : SRes → Prop} (e : a τ h = .next s' h') (k : W (b ⟨τ.b, s'⟩ h') Q) : W (sSeq a b τ h) Q := by
  rw [W_seq, e]
  exact k
theorem W_stepW {a b : ST} {τ : Fm} {h : Own} {Q P : SRes → Prop} (e : W (a τ h) P) (k : ∀ r, P r → ∃ s' h', r = .next s' h' ∧ W (b ⟨τ.b, s'⟩ h') Q) : W (sSeq a b τ h) Q := by
  rw [W_seq]
  obtain ⟨s', h', e1, w⟩ := k _ e
  rw [e1]
  exact w
end Z
set_option Elab.async false
set_option linter.all false
set_option maxRecDepth 100000
/-! Z26: to compute with the newer constructs. -/
namespace Z
open PySem PySem.Spec L2
section
variable {τ : Fm} {h : Own} {c n : Nat} {x y : ST} {s : Sl}
@[simp] theorem sRaise_eq : sRaise c τ h = .exc c τ.s h := rfl
@[simp] theorem W_th_exc {b : ST} {k : Nat} {Q : SRes → Prop} : W (.exc c s h) (Th b k Q) = W (.exc c s h) Q := rfl
@[simp] theorem Th_exc {b : ST} {k : Nat} {Q : SRes → Prop} : Th b k Q (.exc c s h) = W (.exc c s h) Q := rfl
theorem sTry_exc {cs : List Nat} (e : x τ h = .exc c s h) (hc : c ∈ cs) : sTry cs x y τ h = nox (y ⟨τ.b, s⟩ h) := by
  unfold sTry
  rw [e]
  exact if_pos hc
theorem sTry_next {cs : List Nat} {h1 : Own} (e : x τ h = .next s h1) : sTry cs x y τ h = .next s h1 := by
  unfold sTry
  rw [e]
@[simp] theorem eMkX_eq {G : BD} {xs : EA} : eMkX c n G xs τ h = (xs τ h).bind fun ds h1 => if ds.length + 1 = n then
  (match G h1.length (.ref h1.length :: ds) (h1 ++ [.ins c []]) with
  | .next _ h3 => match h3[h1.length]? with
    | some (.ins c' fs) => if nrfs fs = true then .ok (.n (.ins c' fs)) (h3.take h1.length) else .stuck
    | _ => .stuck
  | .exc k _ h3 => .exc k (h3.take h1.length)
  | _ => .stuck) else .stuck := by
  unfold eMkX
  rfl
@[simp] theorem eDisp1_eq {k v : ED} : eDisp1 k v τ h = (k τ h).bind fun x h1 => (v τ h1).bind fun y h2 => match asKs x with
  | some ks => .ok (.n (.dT [(ks, y)])) h2
  | none => .stuck := by
  unfold eDisp1
  rfl
@[simp] theorem iEnA_eq {xs : EA} : iEnA xs τ h = (xs τ h).bind fun ds h1 => match ds with
  | [.lst ds] => .ok (enD ds, none) h1
  | [.tup ds] => .ok (enD ds, none) h1
  | [.ref n] => match h1[n]? with
    | some (.lst ds) => .ok (enD ds, some (n, .lst ds)) h1
    | _ => .stuck
  | _ => .stuck := by
  unfold iEnA
  rfl
@[simp] theorem iZp_eq {xs : EA} : iZp xs τ h = (xs τ h).bind fun ds h1 => match ds with
  | [.lst xs, .lst ys] => .ok (zipD xs ys, none) h1
  | _ => .stuck := by
  unfold iZp
  rfl
@[simp] theorem eDC_eq {it : EI} {g : ET} {t : EB} {kx vx : ED} {vs : List Nat} : eDC it g t kx vx vs τ h = (it τ h).bind fun p h1 => dcGo p.2 g t kx vx τ.b (Z.clr vs τ.s) p.1 h1 [] := rfl
@[simp] theorem tTup_eq {gs : ETs} {ds : List D} : tTup gs (.tup ds) τ h = gs ds τ h := rfl
@[simp] theorem tCons_eq {g : ET} {gs : ETs} {d : D} {ds : List D} : tCons g gs (d :: ds) τ h = (match g d τ h with
  | .next s h1 => gs ds ⟨τ.b, s⟩ h1
  | _ => .stuck) := by
  unfold tCons
  rfl
@[simp] theorem tNil_eq : tNil [] τ h = .next τ.s h := rfl
end
/-- the items of enumerate -/
theorem enD_map {α : Type} (f : α → D) (as : List α) : enD (as.map f) = (as.zipIdx).map fun p => .tup [.int (p.2 : Int), f p.1] := by
  unfold enD
  rw [List.zipIdx_map, List.map_map]
  rfl
/-- a dict comprehension of marks -/
theorem dc_kd {g : ET} {kx : ED} {b : Nat} {s : Sl} {h : Own} (as : List Nat) (cs : List Nat) (hs : ∀ a ∈ as, ∃ s1, g (nD a) ⟨b, s⟩ h = .next s1 h ∧ kx ⟨b, s1⟩ h = .ok (nD a) h) (hl : cs.length + as.length ≤ 1000000) :
    dcGo none g bYes kx (eC (.bl true)) b s (as.map nD) h (kd cs) = .ok (.n (.dK (kd (as.foldl (fun c a => if a ∈ c then c else c ++ [a]) cs)))) h := by
  induction as generalizing cs with
  | nil => simp [dcGo]
  | cons a as ih =>
    obtain ⟨s1, e1, e2⟩ := hs a List.mem_cons_self
    rw [List.map_cons]
    unfold dcGo
    rw [if_pos (by simp), e1]
    simp only [bYes_eq, e2, eC_eq, asK_int]
    rw [List.length_cons] at hl
    have h1 : (kd cs).length < sizeLine := by unfold kd; rw [List.length_map]; exact szl (by omega)
    rw [if_pos h1, putD_kd, ih _ (fun y hy => hs y (List.mem_cons_of_mem _ hy)) (by have : (if a ∈ cs then cs else cs ++ [a]).length ≤ cs.length + 1 := by { split <;> simp }; omega)]
    rfl
theorem mergeD_kd (cs : List Nat) : ∀ as : List Nat, mergeD (kd cs) (kd as) = kd (as.foldl (fun c a => if a ∈ c then c else c ++ [a]) cs)
  | [] => rfl
  | a :: as => by
    show mergeD (putD (kd cs) _ _) (kd as) = _
    rw [putD_kd, mergeD_kd _ as]
    rfl
theorem fSorted_kd' {H : Own} {n : Nat} {cs : List Nat} (nd : cs.Nodup) (hl : cs.length < 64) (e : H[n]? = some (.dK (kd cs))) : fSorted [.ref n] H = .ok (.n (.lst ((cs.mergeSort (· ≤ ·)).map nD))) H := by
  have e1 : isort (cs.map fun c : Nat => (c : Int)) = (cs.mergeSort (· ≤ ·)).map fun c : Nat => (c : Int) := by
    symm
    apply isort_uniq
    · exact (List.mergeSort_perm _ _).map _
    · have := List.pairwise_mergeSort (le := fun a b : Nat => decide (a ≤ b)) (fun a b c h1 h2 => by simp at *; omega) (fun a b => by simp; omega) cs
      rw [List.pairwise_map]
      exact this.imp fun h => by simp at h; omega
  have k1 : (kd cs).map (·.1) = (cs.map fun c : Nat => (c : Int)).map Sum.inl := by unfold kd; simp
  have hI : fSortI [.ref n] H = .stuck := by
    unfold fSortI asL
    simp [e]
  have hD : fSortD [.ref n] H = .ok (.n (.lst ((isort (cs.map fun c : Nat => (c : Int))).map .int))) H := by
    unfold fSortD asD
    simp only [e, k1, keyI_map]
    rw [if_pos (by simpa using hl)]
  show (match fSortI [.ref n] H with | .stuck => fSortD [.ref n] H | z => z) = _
  rw [hI]
  dsimp only
  rw [hD, e1, List.map_map]
  rfl
theorem fUpd_eq {H : Own} {b n : Nat} {kds more : List (Key × D)} (e : H[n]? = some (.dK kds)) (hl : kds.length + more.length ≤ 1000000) (hp : b ≤ n ∨ nrfO (.dK (mergeD kds more)) = true) :
    fUpd (.ref n) [.dK more] b H = .ok (.v .non) (H.set n (.dK (mergeD kds more))) := by
  unfold fUpd
  simp only [e]
  rw [if_pos (sz _ hl)]
  unfold putO
  rw [if_pos (hp.imp id .inl)]
theorem fSSet_eq {H : Own} {d : D} {ns : List Int} (e : asQ H d = some (ns.map .int)) (hl : ns.length < 64) : fSSet [d] H = .ok (.n (.lst ((sset ns).map .int))) H := by
  unfold fSSet
  simp only [e, asI_ints]
  rw [if_pos hl]
end Z
set_option Elab.async false
set_option linter.all false
set_option maxRecDepth 2000000
/-! Z27: plain values, to a depth. -/
namespace Z
open PySem PySem.Spec L2
theorem r62b {n : Nat} (h : n ≤ 16000000) : R62 (n : Int) := by
  refine .mk ?_
  simp only [Int.reducePow]
  omega
theorem szB (n : Nat) (h : n ≤ 16000000) : n ≤ sizeLine := Nat.le_trans h (by decide)
theorem szlB {n : Nat} (h : n ≤ 16000000) : n < sizeLine := Nat.lt_of_le_of_lt h (by decide)
def pln : Nat → D → Bool
  | 0, _ => false
  | _ + 1, .non => true
  | _ + 1, .bl _ => true
  | _ + 1, .int _ => true
  | _ + 1, .str z => PyData.strOk z
  | k + 1, .tup ds => decide (ds.length ≤ 2000000) && ds.all (pln k)
  | k + 1, .lst ds => decide (ds.length ≤ 2000000) && ds.all (pln k)
  | _, _ => false
@[simp] theorem pln_non {k : Nat} : pln (k + 1) .non = true := rfl
@[simp] theorem pln_bl {k : Nat} {b : Bool} : pln (k + 1) (.bl b) = true := rfl
@[simp] theorem pln_int {k : Nat} {i : Int} : pln (k + 1) (.int i) = true := rfl
theorem pln_tup {k : Nat} {ds : List D} (hl : ds.length ≤ 2000000) (h : ∀ d ∈ ds, pln k d = true) : pln (k + 1) (.tup ds) = true := by
  show (decide (ds.length ≤ 2000000) && ds.all (pln k)) = true
  rw [decide_eq_true hl, List.all_eq_true.mpr h]
  rfl
theorem pln_lst {k : Nat} {ds : List D} (hl : ds.length ≤ 2000000) (h : ∀ d ∈ ds, pln k d = true) : pln (k + 1) (.lst ds) = true := by
  show (decide (ds.length ≤ 2000000) && ds.all (pln k)) = true
  rw [decide_eq_true hl, List.all_eq_true.mpr h]
  rfl
theorem pln_nDs {k : Nat} (w : List Nat) : ∀ d ∈ w.map nD, pln (k + 1) d = true := fun d hd => by
  obtain ⟨n, _, rfl⟩ := List.mem_map.mp hd
  rfl
theorem pln_wD {k : Nat} {w : List Nat} (hl : w.length ≤ 2000000) : pln (k + 2) (wD w) = true := pln_tup (by simpa using hl) (pln_nDs w)
theorem pln_nL {k : Nat} {w : List Nat} (hl : w.length ≤ 2000000) : pln (k + 2) (.lst (w.map nD)) = true := pln_lst (by simpa using hl) (pln_nDs w)
end Z
set_option Elab.async false
set_option linter.all false
set_option maxRecDepth 100000
/-! Z28: methods of the program's own classes; calls behind which the own heap stays whole. -/
namespace Z
open PySem PySem.Spec L2
/-- a call behind which nothing is cut -/
def callK (G : BD) (ds : List D) (h : Own) : Res R := match G h.length ds h with
  | .next _ h1 => .ok (.v .non) h1
  | .ret r h1 => .ok r h1
  | .exc c _ h1 => .exc c h1
  | _ => .stuck
/-- a call as of the law's own frame: it may store new things in old ones -/
def callE (b : Nat) (G : BD) (ds : List D) (h : Own) : Res R := if b = 0 then (match G 0 ds h with
  | .next _ h1 => .ok (.v .non) h1
  | .ret r h1 => .ok r h1
  | .exc c _ h1 => .exc c h1
  | _ => .stuck) else .stuck
section
variable {ca : Cn} {μ : List Addr} {F H : Hp} {h : Own}
theorem call_postK {n : Nat} {G : BD} {Wx : Nat → Hp → Prop} {b : Nat} {vs : List V} {ds : List D} {Q : VK} {E : XK} (R : RelH ca μ F h H) (hb : b ≤ h.length) (V1 : VRs ca μ F vs ds) (hn : ds.length = n)
    (hE : ∀ c H, Wx c H → E (.ref (ca.ad c)) none H) (p : PostG ca b μ F H h (callK G ds h) Wx fun r μ1 F1 H1 _ => ∀ v, RR ca μ1 F1 H H1 v r → Q v H1) : spB ca n G vs H Q E := by
  refine ⟨μ, F, h, ds, h.length, R, V1, hn, Nat.le_refl _, ?_⟩
  unfold callK at p
  cases hg : G h.length ds h with
  | next s h1 => rw [hg] at p; exact fun μ1 F1 H1 E1 R1 => p μ1 F1 H1 (E1.base hb) R1 .non (show VR ca _ _ _ _ from .non)
  | ret r h1 => rw [hg] at p; exact fun μ1 F1 H1 v E1 R1 V => p μ1 F1 H1 (E1.base hb) R1 v V
  | exc c s h1 => rw [hg] at p; exact fun μ1 F1 H1 E1 R1 => hE _ _ (p μ1 F1 H1 (E1.base hb) R1)
  | _ => rw [hg] at p; exact p.elim
theorem call_postE {n : Nat} {G : BD} {Wx : Nat → Hp → Prop} {b : Nat} {vs : List V} {ds : List D} {Q : VK} {E : XK} (R : RelH ca μ F h H) (V1 : VRs ca μ F vs ds) (hn : ds.length = n)
    (hE : ∀ c H, Wx c H → E (.ref (ca.ad c)) none H) (p : PostG ca b μ F H h (callE b G ds h) Wx fun r μ1 F1 H1 _ => ∀ v, RR ca μ1 F1 H H1 v r → Q v H1) : spB ca n G vs H Q E := by
  unfold callE at p
  by_cases hb : b = 0
  · rw [if_pos hb] at p
    subst hb
    refine ⟨μ, F, h, ds, 0, R, V1, hn, Nat.zero_le _, ?_⟩
    cases hg : G 0 ds h with
    | next s h1 => rw [hg] at p; exact fun μ1 F1 H1 E1 R1 => p μ1 F1 H1 E1 R1 .non (show VR ca _ _ _ _ from .non)
    | ret r h1 => rw [hg] at p; exact fun μ1 F1 H1 v E1 R1 V => p μ1 F1 H1 E1 R1 v V
    | exc c s h1 => rw [hg] at p; exact fun μ1 F1 H1 E1 R1 => hE _ _ (p μ1 F1 H1 E1 R1)
    | _ => rw [hg] at p; exact p.elim
  · rw [if_neg hb] at p; exact p.elim
end
/-- how a call is answered -/
abbrev CL := Nat → BD → List D → Own → Res R
def clN : CL := fun _ G ds h => callB G ds h
def clK : CL := fun _ G ds h => callK G ds h
def clE : CL := fun b G ds h => callE b G ds h
/-- what the three have in common -/
def ClOk (ca : Cn) (cl : CL) : Prop := ∀ {μ : List Addr} {F H : Hp} {h : Own} {n : Nat} {G : BD} {Wx : Nat → Hp → Prop} {b : Nat} {vs : List V} {ds : List D} {Q : VK} {E : XK}, RelH ca μ F h H → b ≤ h.length → VRs ca μ F vs ds → ds.length = n →
  (∀ c H, Wx c H → E (.ref (ca.ad c)) none H) → PostG ca b μ F H h (cl b G ds h) Wx (fun r μ1 F1 H1 _ => ∀ v, RR ca μ1 F1 H H1 v r → Q v H1) → spB ca n G vs H Q E
theorem clN_ok {ca : Cn} : ClOk ca clN := fun R hb V hn hE p => call_post R hb V hn hE p
theorem clK_ok {ca : Cn} : ClOk ca clK := fun R hb V hn hE p => call_postK R hb V hn hE p
theorem clE_ok {ca : Cn} : ClOk ca clE := fun R hb V hn hE p => call_postE R V hn hE p
section
variable {ca : Cn} {X : Cx} {W : WF} {pos : Pos} {e a b c : Expr}
/-- f(..) with the answer cl -/
def eCallC (cl : CL) (n : Nat) (G : BD) (xs : EA) : EX := fun τ h => (xs τ h).bind fun ds h1 => if ds.length = n then cl τ.b G ds h1 else .stuck
theorem se_callC {cl : CL} (co : ClOk ca cl) {f : Addr} {fd : FuncData} {ps : List Str} {k n : Nat} {G : BD} {x : Str} {p : Pos} {es : List Expr} {xs : EA} (hn : ps.length = n) (F : FnOk X.prog X.w X.K X.mg X.base (L2.CX X.prog X.w) k f fd ps (spB ca n G)) (hr : Room k X.A) (hg : Gl X x) (hm : X.mg x = some (.ref f))
    (hk : PySem.W.keepIn X.K (.ref f) = true) (hb : Binds X.K fd ps []) (tk : Takes X W) (ha : SA ca X W (e :: es) xs) (hdb : (x == ("__debug__" : Str)) = false) (he : starEach (e :: es) X.env = (false, eval e X.env) :: starEach es X.env)
    (hpl : (backTo pos (starEach es X.env)).any (·.1) = false) : SE ca X W (.Call (.Name x p) (e :: es) [] pos) (eCallC cl n G xs) := by
  subst hn
  exact PE.imp (pe_callS F hr hg hm hk hb (fun σ => passAt tk σ) ha hdb he hpl) fun σ H Q ⟨μ, F, τ, h, A, p⟩ => ⟨μ, F, τ, h, A, p.bind.imp fun ds μ1 F1 H1 h1 E1 R1 q vs Vs => by
    by_cases hn : ds.length = ps.length
    · rw [if_pos hn] at q
      exact co R1 (A.ext E1 R1).bl Vs hn (fun c H z => z) (q.imp fun r μ2 F2 H2 h2 E2 R2 q2 v V => q2 v (RR.back E1 V))
    · rw [if_neg hn] at q
      exact q.elim⟩
/-! ### o.m(..) -/
def isIns (c : Nat) (h : Own) : D → Bool
  | .obj c' _ => c' == c
  | .ref n => match h[n]? with
    | some (.ins c' _) => c' == c
    | _ => false
  | _ => false
theorem look_none : ∀ {fs : List (Str × V)} {m : Str}, m ∉ fs.map (·.1) → fs.lookup m = none
  | [], _, _ => rfl
  | (x, v) :: fs, m, h => by
    simp only [List.map_cons, List.mem_cons, not_or] at h
    rw [List.lookup_cons]
    have : (m == x) = false := by simpa using h.1
    rw [this]
    exact look_none h.2
theorem isIns_ok {c : Nat} {μ : List Addr} {F H : Hp} {h : Own} {v : V} {d : D} {m : Str} (R : RelH ca μ F h H) (V1 : VR ca μ F v d) (e : isIns c h d = true) (hm : m ∉ ca.nm c) : ∃ a dx fs, v = .ref a ∧ H a = some (.ins (ca.ad c) dx fs) ∧ fs.lookup m = none := by
  cases V1 with
  | obj q k r =>
    have e' : (_ == c) = true := e
    have e2 := eq_of_beq e'
    subst e2
    exact ⟨_, _, _, rfl, R.fz _ _ q, look_none fun z => hm (List.mem_of_mem_take (by rw [k] at z; exact z))⟩
  | ref q =>
    unfold isIns at e
    dsimp only at e
    split at e
    · rename_i c' fds q2
      have e2 := eq_of_beq e
      subst e2
      obtain ⟨dx, fs, q3, k, r⟩ := R.ob _ _ _ q q2
      exact ⟨_, dx, fs, rfl, q3, look_none fun z => hm (List.mem_of_mem_take (by rw [k] at z; exact z))⟩
    · cases e
  | _ => exact (Bool.false_ne_true e).elim
def tMethZ (C : Addr) (m : Str) (sp : Sp) (W : WF) (ta : TE) (t : TA) : TE := fun σ H Q => ta σ H fun x H1 => ∃ a dx fs, x = .ref a ∧ H1 a = some (.ins C dx fs) ∧ fs.lookup m = none ∧ t σ H1 fun vs H2 => sp (x :: vs) H2 Q (WE W σ)
section
variable {k : Nat} {f C : Addr} {fd : FuncData} {ps : List Str} {sp : Sp} {m : Str} {apos : Pos} {o : Expr} {es : List Expr} {ta : TE} {t : TA}
theorem pe_methZ {pl : Sem Bool} (he : PE X o ta) (c : Cls X.K C) (hm : Meth X.K C m f) (F : FnOk X.prog X.w X.K X.mg X.base (L2.CX X.prog X.w) k f fd ps sp) (hr : Room k X.A) (hb : Binds X.K fd ps []) (tk : Takes X W) (ha : PA X (e :: es) t)
    (hst : starEach (e :: es) X.env = (false, eval e X.env) :: starEach es X.env) (hpl : (backTo pos (starEach es X.env)).any (·.1) = false)
    (ht : eval (.Call (.Attribute o m apos) (e :: es) [] pos) X.env = (do
      let ov ← eval o X.env
      standAt apos.atName
      let (f, first) ← holding [ov] (getMethod ov m pl)
      callWith pos f first (backTo pos (starEach (e :: es) X.env)) (backToKw pos (keywordEach [] X.env)))) :
    PE X (.Call (.Attribute o m apos) (e :: es) [] pos) (tMethZ C m sp W ta t) := by
  refine ⟨fun pins s σ H Q I h => ?_⟩
  refine PySem.W.methodCall_KW (pl := pl) (thn (he.run pins s σ H _ I h) fun u s1 ⟨x, H1, I1, rx, a, dx, fs, ex, ea, l, q⟩ => ?_) ht
  subst ex
  obtain rfl : u = Value.ref a := rx
  refine getmeth_ok I1 ea c hm l ?_
  refine PySem.W.callWith_K (first := [.ref a]) (h₀ := X.base) I.ok.mod.kin hm.kp (thn (ha.run pos pins s1 σ H1 _ I1 q) fun us s2 ⟨vs, H2, I2, r, q2⟩ => ⟨I2.kIn, ?_⟩) hst hpl
  exact run_fnS (us := .ref a :: us) (vs := .ref a :: vs) F hr hb (passAt tk σ) I2 (.cons rfl r) q2
theorem pe_methZ0 {pl : Sem Bool} (he : PE X o ta) (c : Cls X.K C) (hm : Meth X.K C m f) (F : FnOk X.prog X.w X.K X.mg X.base (L2.CX X.prog X.w) k f fd ps sp) (hr : Room k X.A) (hb : Binds X.K fd ps []) (tk : Takes X W)
    (ht : eval (.Call (.Attribute o m apos) [] [] pos) X.env = (do
      let ov ← eval o X.env
      standAt apos.atName
      let (f, first) ← holding [ov] (getMethod ov m pl)
      callWith pos f first (backTo pos (starEach [] X.env)) (backToKw pos (keywordEach [] X.env)))) :
    PE X (.Call (.Attribute o m apos) [] [] pos) (tMethZ C m sp W ta L2.tNil) := by
  refine ⟨fun pins s σ H Q I h => ?_⟩
  refine PySem.W.methodCall_KW (pl := pl) (thn (he.run pins s σ H _ I h) fun u s1 ⟨x, H1, I1, rx, a, dx, fs, ex, ea, l, q⟩ => ?_) ht
  subst ex
  obtain rfl : u = Value.ref a := rx
  refine getmeth_ok I1 ea c hm l ?_
  exact PySem.W.callWith_K0 (first := [.ref a]) I1.kIn hm.kp (run_fnS (us := [.ref a]) (vs := [.ref a]) F hr hb (passAt tk σ) I1 (.cons rfl .nil) q)
end
def eMeth (cl : CL) (c n : Nat) (G : BD) (o : ED) (xs : EA) : EX := fun τ h => (o τ h).bind fun d h1 => if isIns c h1 d = true then ((xs τ h1).bind fun ds h2 => if ds.length + 1 = n then cl τ.b G (d :: ds) h2 else .stuck) else .stuck
/-- what a method's facts are -/
structure MtF (K : PySem.W.Frag) (ca : Cn) (c : Nat) (m : Str) (st : Stmt) (ps : List Str) (f : Addr) (fd : FuncData) : Prop where
  mt : Meth K (ca.ad c) m f
  no : m ∉ ca.nm c
  b : Binds K fd ps []
theorem se_meth {cl : CL} (co : ClOk ca cl) {cn n k : Nat} {f : Addr} {fd : FuncData} {ps : List Str} {G : BD} {m : Str} {st : Stmt} {apos : Pos} {o : Expr} {es : List Expr} {xo : ED} {xs : EA} {pl : Sem Bool} (hn : ps.length = n) (c : Cls X.K (ca.ad cn)) (M : MtF X.K ca cn m st ps f fd)
    (F : FnOk X.prog X.w X.K X.mg X.base (L2.CX X.prog X.w) k f fd ps (spB ca n G)) (hr : Room k X.A) (tk : Takes X W) (ho : SD ca X W o xo) (ha : SA ca X W (e :: es) xs)
    (hst : starEach (e :: es) X.env = (false, eval e X.env) :: starEach es X.env) (hpl : (backTo pos (starEach es X.env)).any (·.1) = false)
    (ht : eval (.Call (.Attribute o m apos) (e :: es) [] pos) X.env = (do
      let ov ← eval o X.env
      standAt apos.atName
      let (f, first) ← holding [ov] (getMethod ov m pl)
      callWith pos f first (backTo pos (starEach (e :: es) X.env)) (backToKw pos (keywordEach [] X.env)))) :
    SE ca X W (.Call (.Attribute o m apos) (e :: es) [] pos) (eMeth cl cn n G xo xs) :=
  PE.imp (pe_methZ ho c M.mt F hr M.b tk ha hst hpl ht) fun σ H Q ⟨μ, F, τ, h, A, p⟩ => ⟨μ, F, τ, h, A, p.bind.imp fun d μ1 F1 H1 h1 E1 R1 q v V => by
    by_cases hi : isIns cn h1 d = true
    · rw [if_pos hi] at q
      obtain ⟨a, dx, fs, e1, e2, e3⟩ := isIns_ok R1 V hi M.no
      refine ⟨a, dx, fs, e1, e2, e3, μ1, F1, τ, h1, A.ext E1 R1, q.bind.imp fun ds μ2 F2 H2 h2 E2 R2 q2 vs Vs => ?_⟩
      by_cases hn : ds.length + 1 = n
      · rw [if_pos hn] at q2
        exact co R2 ((A.ext E1 R1).ext E2 R2).bl (.cons (E2.vr V) Vs) (by rw [List.length_cons]; exact hn) (fun c H z => z) (q2.imp fun r μ3 F3 H3 h3 E3 R3 q3 u V3 => q3 u (RR.back E1 (RR.back E2 V3)))
      · rw [if_neg hn] at q2
        exact q2.elim
    · rw [if_neg hi] at q
      exact q.elim⟩
theorem se_meth0 {cl : CL} (co : ClOk ca cl) {cn n k : Nat} {f : Addr} {fd : FuncData} {ps : List Str} {G : BD} {m : Str} {st : Stmt} {apos : Pos} {o : Expr} {xo : ED} {pl : Sem Bool} (hn : ps.length = n) (c : Cls X.K (ca.ad cn)) (M : MtF X.K ca cn m st ps f fd)
    (F : FnOk X.prog X.w X.K X.mg X.base (L2.CX X.prog X.w) k f fd ps (spB ca n G)) (hr : Room k X.A) (tk : Takes X W) (ho : SD ca X W o xo)
    (ht : eval (.Call (.Attribute o m apos) [] [] pos) X.env = (do
      let ov ← eval o X.env
      standAt apos.atName
      let (f, first) ← holding [ov] (getMethod ov m pl)
      callWith pos f first (backTo pos (starEach [] X.env)) (backToKw pos (keywordEach [] X.env)))) :
    SE ca X W (.Call (.Attribute o m apos) [] [] pos) (eMeth cl cn n G xo aNil) :=
  PE.imp (pe_methZ0 ho c M.mt F hr M.b tk ht) fun σ H Q ⟨μ, F, τ, h, A, p⟩ => ⟨μ, F, τ, h, A, p.bind.imp fun d μ1 F1 H1 h1 E1 R1 q v V => by
    by_cases hi : isIns cn h1 d = true
    · rw [if_pos hi] at q
      obtain ⟨a, dx, fs, e1, e2, e3⟩ := isIns_ok R1 V hi M.no
      have q2 : PostG ca τ.b μ1 F1 H1 h1 (if 0 + 1 = n then cl τ.b G [d] h1 else .stuck) (wx ca W σ) (fun r μ2 F2 H2 _ => ∀ v, RR ca μ2 F2 H H2 v r → Q v H2) := q
      refine ⟨a, dx, fs, e1, e2, e3, ?_⟩
      show spB ca n G [v] H1 Q (WE W σ)
      by_cases hn : 0 + 1 = n
      · rw [if_pos hn] at q2
        exact co R1 (A.ext E1 R1).bl (.cons V .nil) hn (fun c H z => z) (q2.imp fun r μ3 F3 H3 h3 E3 R3 q3 u V3 => q3 u (RR.back E1 V3))
      · rw [if_neg hn] at q2
        exact q2.elim
    · rw [if_neg hi] at q
      exact q.elim⟩
/-! ### C(..) whose instance holds own things -/
def eMkK (c n : Nat) (G : BD) (xs : EA) : EX := fun τ h => (xs τ h).bind fun ds h1 => if ds.length + 1 = n then
  (match G h1.length (.ref h1.length :: ds) (h1 ++ [.ins c []]) with
  | .next _ h3 => .ok (.v (.ref h1.length)) h3
  | .exc k _ h3 => .exc k h3
  | _ => .stuck) else .stuck
theorem se_mkK {C f : Addr} {cn n : Nat} {fd : FuncData} {ps : List Str} {k : Nat} {G : BD} {x : Str} {p : Pos} {es : List Expr} {xs : EA} (hn : ps.length = n) (hC : ca.ad cn = C) (M : Mk X.K C f) (F : FnOk X.prog X.w X.K X.mg X.base (L2.CX X.prog X.w) k f fd ps (spB ca n G)) (hr : Room (k + 1) X.A)
    (hg : Gl X x) (hm : X.mg x = some (.ref C)) (hb : Binds X.K fd ps []) (tk : Takes X W) (ha : SA ca X W (e :: es) xs) (hdb : (x == ("__debug__" : Str)) = false) (he : starEach (e :: es) X.env = (false, eval e X.env) :: starEach es X.env)
    (hpl : (backTo pos (starEach es X.env)).any (·.1) = false) : SE ca X W (.Call (.Name x p) (e :: es) [] pos) (eMkK cn n G xs) :=
  PE.imp (pe_makeS M F hr hg hm hb (fun σ => passAt tk σ) ha hdb he hpl) fun σ H Q ⟨μ, F, τ, h, A, p⟩ => ⟨μ, F, τ, h, A, p.bind.imp fun ds μ1 F1 H1 h1 E1 R1 q vs Vs => by
    intro x dx hx hdx hne
    have A1 := A.ext E1 R1
    by_cases hn : ds.length + 1 = n
    · rw [if_pos hn] at q
      have hne' : H1 x = none → upd H1 dx (.own x) x = none := fun z => by rw [upd_ne (Ne.symm hne)]; exact z
      have Ea : Ext h1.length μ1 F1 H1 h1 μ1 F1 (upd (upd H1 dx (.own x)) x (.ins C dx [])) h1 := (Ext.refl.upd hdx).upd (hne' hx)
      have Ra : RelH ca μ1 F1 h1 (upd (upd H1 dx (.own x)) x (.ins C dx [])) := (R1.upd hdx).upd (hne' hx)
      have hxm : x ∉ μ1 := fun z => R1.dom x z hx
      have hxF : F1 x = none := by
        cases q : F1 x with
        | none => rfl
        | some w => exact absurd (R1.fz _ _ q) (by rw [hx]; exact fun z => nomatch z)
      have E2 : Ext h1.length μ1 F1 H1 h1 (μ1 ++ [x]) F1 (upd (upd H1 dx (.own x)) x (.ins C dx [])) (h1 ++ [.ins cn []]) := Ea.alloc hx (Nat.le_refl _)
      have R2 : RelH ca (μ1 ++ [x]) F1 (h1 ++ [.ins cn []]) (upd (upd H1 dx (.own x)) x (.ins C dx [])) := Ra.alloc (by rw [upd_same]; simp) hxm hxF ⟨dx, [], by rw [upd_same, hC], rfl, .nil⟩
      have ix : (μ1 ++ [x])[h1.length]? = some x := by rw [← R1.len]; simp
      refine ⟨μ1 ++ [x], F1, h1 ++ [.ins cn []], .ref h1.length :: ds, h1.length, R2, .cons (.ref ix) (E2.vrs Vs), by rw [List.length_cons]; exact hn, by simp, ?_⟩
      cases hG : G h1.length (.ref h1.length :: ds) (h1 ++ [.ins cn []]) with
      | next s h3 =>
        rw [hG] at q
        intro μ3 F3 H3 E3 R3
        refine ⟨rfl, ?_⟩
        exact q μ3 F3 H3 ((E2.trans E3).base A1.bl) R3 (.ref x) (show VR ca _ _ _ _ from .ref (E3.ix _ _ ix))
      | exc k' s h3 =>
        rw [hG] at q
        intro μ3 F3 H3 E3 R3
        exact q μ3 F3 H3 ((E2.trans E3).base A1.bl) R3
      | _ => rw [hG] at q; exact q.elim
    · rw [if_neg hn] at q; exact q.elim⟩
end
end Z
set_option Elab.async false
set_option linter.all false
set_option maxRecDepth 100000
set_option maxHeartbeats 2000000
/-! Z29: a lambda without parameters handed to a def. -/
namespace Z
open PySem PySem.Spec PyProof.Rows L2 LamX
/-- all but one address stays -/
def Stay1 (P : Addr) (H H' : Hp) : Prop := ∀ b o, H b = some o → b ≠ P → H' b = some o
section
variable {X : Cx} {pins : List (Addr × Obj)} {σ : L2.St} {H : Hp} {s : Shared}
/-- the lambda is made; but for its maker's table nothing known goes -/
theorem lam_make {c P : Addr} {q : Str} {params : Arguments} {body : Expr} {scope : Scope} {pos : Pos} {E : Value → Shared → Prop} {Q : Value → Shared → Prop} (I : Inv X pins σ H s) (TB : TabB X.base X.mg c P) (hcode : X.env.code = .ref c) (hq : X.env.qual ++ "<lambda>" = q)
    (hT : TabS H P q) (hdef : defaultsOf params X.env = ([], [])) (hfree : ∀ y ∈ scope.names, y.2 = .free → ∃ c, X.env.cells.lookup y.1 = some c)
    (h : ∀ (f c' : Addr) (pm ctv : Value) (H1 : Hp) (s' : Shared), Inv X pins σ H1 s' → Stay1 P H H1 → TabS H1 P q →
      s'.heap.get? f = some (PySem.W.kla_obj "<lambda>" q params body scope (cloFrom X.env.cells scope.names []) pm c' ctv) → H1 f = none → f ∉ frs X.stack → H1 c' = some (CodeO c' q) → Q (.ref f) s') :
    wpAny (model X.prog X.w) X.A (eval (.Lambda params body scope pos) X.env) Q E s := by
  subst hq
  obtain ⟨ps, tabH, trip, among⟩ := hT
  have bP : s.heap.BuiltinsAt X.mg P := TB.bm.keeps I.bk
  have tabh : s.heap.get? P = some { cls := .none, data := .fields ps } := I.hok P _ tabH
  have apart : ∀ f, s.heap.objs.size ≤ f → f ∉ frs X.stack := by
    intro f hf z
    rcases List.mem_cons.mp (I.stkSub _ z) with e | e
    · have := I.lt
      rw [← e] at this
      exact Nat.lt_irrefl _ (Nat.lt_of_lt_of_le this hf)
    · exact I.nofs hf e
  refine PySem.W.kla_eval hdef ?_
  cases hc : codeAmong pos ps.toList with
  | some cv =>
    obtain ⟨c', e, known⟩ := among pos cv hc
    subst e
    refine PySem.W.kla_makeFunctionHit (mg := X.mg) (c := c) (P := P) (ps := ps) (closure_ok hfree) I.ok.glob (I.mod.glob.keeps I.bk) hcode (TB.code.keeps I.bk) tabh trip hc bP fun ctv h' tk grow hsz => ?_
    have I' : Inv X pins σ H { s with heap := h'.push (PySem.W.kla_obj "<lambda>" (X.env.qual ++ "<lambda>") params body scope (cloFrom X.env.cells scope.names []) ((X.mg "__name__").getD .none) c' ctv), toks := tk } :=
      I.kept fun b o e => Heap.get?_push_of_some _ (grow b o e)
    exact h h'.objs.size c' _ ctv H _ I' (fun _ _ e _ => e) ⟨ps, tabH, trip, among⟩ (Heap.get?_push_size _ rfl) (I.hok.fresh hsz) (apart _ hsz) known
  | none =>
    refine PySem.W.kla_makeFunction (mg := X.mg) (c := c) (P := P) (ps := ps) (closure_ok hfree) I.ok.glob (I.mod.glob.keeps I.bk) hcode (TB.code.keeps I.bk) tabh trip hc TB.gP bP fun c' ctv h' tk grow hge hlt hrec htb => ?_
    obtain ⟨_, oc, vs, t, e2, hoc, hd, hv⟩ := hrec
    cases e2
    have size_le : s.heap.objs.size ≤ h'.objs.size := Nat.le_trans hge (Nat.le_of_lt hlt)
    have newC : H c' = none := I.hok.fresh hge
    have PnC : P ≠ c' := ne_of_none tabH newC
    have I' := inv_table (t' := tk) (more := #[rawInt pos.line, rawInt pos.col, .ref c']) (h' := h'.push (PySem.W.kla_obj "<lambda>" (X.env.qual ++ "<lambda>") params body scope (cloFrom X.env.cells scope.names []) ((X.mg "__name__").getD .none) c' ctv)) I tabH
      (fun b o hb e => Heap.get?_push_of_some _ (grow b o hb e)) (Heap.get?_push_of_some _ htb) hge ⟨oc, vs, t, Heap.get?_push_of_some _ hoc, hd, hv⟩
    have st : Stay1 P H (upd (upd H P (.tbl (ps ++ #[rawInt pos.line, rawInt pos.col, .ref c']))) c' (CodeO c' (X.env.qual ++ "<lambda>"))) := fun b o e n => by
      rw [upd_ne (ne_of_none e newC), upd_ne n]
      exact e
    have flat : (ps ++ #[rawInt pos.line, rawInt pos.col, .ref c']).toList = ps.toList ++ [rawInt pos.line, rawInt pos.col, .ref c'] := by simp
    refine h h'.objs.size c' _ ctv _ _ I' st ⟨_, by rw [upd_ne PnC, upd_same], by rw [flat]; exact PySem.TriplesOk_snoc _ _ _ _ trip, fun p' cv hcv => ?_⟩ (Heap.get?_push_size _ rfl) ?_ (apart _ size_le) upd_same
    · rw [flat] at hcv
      rcases among_app _ trip hcv with z | z
      · obtain ⟨c0, e1, e2⟩ := among p' cv z
        refine ⟨c0, e1, st _ _ e2 fun z => ?_⟩
        rw [z, tabH] at e2
        exact codeO_ne ps (Option.some.inj e2).symm
      · exact ⟨c', z, upd_same⟩
    · rw [upd_ne (Nat.ne_of_gt hlt), upd_ne (Nat.ne_of_gt (Nat.lt_of_lt_of_le (Heap.lt_size tabh) size_le))]
      exact I.hok.fresh size_le
end
def tLam1 (P : Addr) (q : Str) (TT : (XK → Hp → VK → Prop) → Hp → VK → Prop) (t : XK → TE) : TE := fun σ H Q => TabS H P q ∧ ∀ H1, Stay1 P H H1 → TabS H1 P q → TT (fun E H' Q' => t E σ H' Q') H1 Q
/-- what is known of the def x that gets the lambda, a: its parameter -/
structure Gets (X : Cx) (x a : Str) (k : Nat) (TT : (XK → Hp → VK → Prop) → Hp → VK → Prop) (q : Str) : Prop where
  ex : ∃ (g : Addr) (pg : Arguments) (bg : List Stmt) (sg : Scope) (dV kV doc pm cdv ct oc : Value) (an od : Option Addr) (osl : Array (Option Value)) (Ng : List Str),
    X.mg x = some (.ref g) ∧ PySem.W.keepIn X.K (.ref g) = true ∧ X.K.lookup g = some ⟨oc, od, .func (PySem.W.fnOf x x pg bg sg dV kV doc pm an cdv ct), osl⟩ ∧ PySem.W.codeIn X.K cdv x = true ∧
    Binds X.K (PySem.W.fnOf x x pg bg sg dV kV doc pm an cdv ct) [a] [] ∧ FnScope Ng [a] sg ∧ Ng[0]? = some a ∧ Vis sg a ∧ GivesTo X Ng x sg g cdv bg a q TT
section
variable {X : Cx}
theorem pe_lam {TT : (XK → Hp → VK → Prop) → Hp → VK → Prop} {x a q : Str} {c P : Addr} {k : Nat} {params : Arguments} {body : Expr} {scope : Scope} {t : XK → TE} {p lpos pos : Pos} (hg : Gl X x) (G : Gets X x a k TT q)
    (TB : TabB X.base X.mg c P) (hcode : X.env.code = .ref c) (hq : X.env.qual ++ "<lambda>" = q) (hr : Room (k + 2) X.A) (L : LamS X.env.scope scope) (hdef : defaultsOf params X.env = ([], []))
    (hbind : ∀ (q : Str) (cl : List (Str × Addr)) (pm cv ctv : Value), bindArgs (PySem.W.kla_fn "<lambda>" q params body scope cl pm cv ctv) ⟨[], []⟩ = pure [])
    (hbody : ∀ (A : Around) (outer : List Env) (s : Shared) (H : Hp) (E : XK) (f c' : Addr), Room k (A.deeper (lamEnv X scope s.heap.objs.size f c')) → PE (lamCx X A outer s H E scope f c') body (t E))
    (hdb : (x == ("__debug__" : Str)) = false) (hd : (a == ("__debug__" : Str)) = false) (hcd : (a == ("__classdict__" : Str)) = false) :
    PE X (.Call (.Name x p) [.Lambda params body scope lpos] [] pos) (tLam1 P q TT t) := by
  obtain ⟨g, pg, bg, sg, dV, kV, doc, pm, cdv, ct, oc, an, od, osl, Ng, hm, hk, lk, hcg, hb, Sg, hNg, hva, hG⟩ := G.ex
  subst hq
  refine ⟨fun pins s σ H Q I h => ?_⟩
  obtain ⟨hT, h⟩ := h
  refine wpAny_Call_Name_kw (ld_glob I hg hm ?_ hdb)
  refine PySem.W.callWith_K (h₀ := X.base) I.ok.mod.kin hk ?_ (by rfl) (by rfl)
  show wpAny _ _ (spliced ((false, eval (.Lambda params body scope lpos) X.env) :: backTo pos (starEach [] X.env))) _ _ s
  refine Calls.spliced_cons (lam_make I TB hcode rfl hT hdef (L.has I.ok) fun f c' pm' ctv H1 s' I1 st T1 hf hfn hfr hco => ?_)
  refine Calls.spliced_nil ⟨I1.kIn, ?_⟩
  have rc : codeAny (model X.prog X.w) X.A (.call (.ref g) ⟨[.ref f], []⟩) (CR C8.CX0 X.stack X.prog X.w H1 s' Q C8.E0) s' := by
    refine run_ofS (N := Ng) (ps := [a]) (us := [.ref f]) (vs := [.ref f]) lk hcg Sg hr I1.env0 (hb s' [.ref f] I1.kIn rfl) (.cons rfl .nil) rfl fun hr' => ?_
    obtain ⟨t', ht', hq'⟩ := hG f c' s' H1 Q (fun E H' Q' => t E σ H' Q') (fun W pn xe E p1 p2 tk hW => pe_act (i := 0) I1 L hf hfn hfr (hbind _ _ _ _ _) tk hW hr' (fun A outer s H hr2 => hbody A outer s H E f c' hr2) hNg hva hd hcd) hco (h H1 st T1)
    exact ⟨t', ht'.nox, hq'⟩
  refine wpAny_call (codeAny_mono rc fun r s2 hq => ?_)
  cases r with
  | error e => exact (show False from hq).elim
  | ok fl =>
    cases fl with
    | ret u => exact I1.after hq
    | next => exact False.elim hq
    | brk => exact False.elim hq
    | cont => exact False.elim hq
end
/-! ### the three defs that get lambdas -/
/-- try: a() / except e: return b1; return b2 -/
def TCode (K : PySem.W.Frag) (CS : Addr) (b1 b2 : Bool) : (XK → Hp → VK → Prop) → Hp → VK → Prop := fun tl H Q =>
  tl (fun cls _ H' => ∃ b, PySem.W.exmOne K cls (.ref CS) = some b ∧ (b = true → Q (.bl b1) H') ∧ (b = false → False)) H (fun _ H' => Q (.bl b2) H')
/-- try: return a() / except e1: return r1 / except e2: return r2 -/
def TTold2 (K : PySem.W.Frag) (C1 C2 : Addr) (r1 r2 : Str) : (XK → Hp → VK → Prop) → Hp → VK → Prop := fun tl H Q =>
  tl (fun cls _ H' => ∃ b, PySem.W.exmOne K cls (.ref C1) = some b ∧ (b = true → Q (.str r1) H') ∧ (b = false → ∃ b', PySem.W.exmOne K cls (.ref C2) = some b' ∧ (b' = true → Q (.str r2) H') ∧ (b' = false → False))) H Q
section
variable {X : Cx}
theorem code_gives {Ng : List Str} {x a e q : Str} {b1 b2 : Bool} {sg : Scope} {g CS : Addr} {cdg : Value} {j1 j2 : Nat} {p1 p2 p3 p4 p5 p6 p7 p8 p9 p10 : Pos} {c1 c2 : Expr} (hc1 : c1 = .Constant (.bool b1) j1 p5) (hc2 : c2 = .Constant (.bool b2) j2 p9)
    (hge : sg.names.lookup e = some .globalImplicit) (hme : X.mg e = some (.ref CS)) (hde : (e == ("__debug__" : Str)) = false) (h0 : ∀ f : Addr, (L2.start Ng [V.ref f])[0]? = some (some (V.ref f))) :
    GivesTo X Ng x sg g cdg [.Try [.Expr (.Call (.Name a p1) [] [] p2) p3] [.ExceptHandler (some (.Name e p4)) none [.Return (some c1) p6] p7] [] [] p8, .Return (some c2) p10] a q (TCode X.K CS b1 b2) := by
  subst hc1 hc2
  intro f c' s H Q tl act hc h
  have hgl : Gl (cxOf C8.CX0 X.prog X.w X.K X.mg X.base Ng x sg g cdg X.A X.stack s H C8.E0).nox e := hge
  refine ⟨_, pss_cons (ps_try_only (X := (cxOf C8.CX0 X.prog X.w X.K X.mg X.base Ng x sg g cdg X.A X.stack s H C8.E0).nox) (c := .ref CS)
      (tb := fun W D σ H => ∃ Ech : XK, (∀ cls d σ' H', Ech cls d H' → W cls d σ' H') ∧ σ[0]? = some (some (.ref f)) ∧ H c' = some (CodeO c' q) ∧ tl Ech H fun _ H' => D.nx σ H')
      rfl rfl ⟨hgl, hde, .inl hme⟩ L2.takes0 (fun W pn xe tk _ => ?_) (fun a oe cls d pn _ _ => pss_one (ps_ret pe_bl))) (pss_one (ps_ret pe_bl)), ?_⟩
  · refine ⟨fun pins s' σ H' D I h' => ?_⟩
    obtain ⟨Ech, hW, h1, h2, h3⟩ := h'
    have hp := act W pn xe Ech p1 p2 tk hW
    have hq := pss_one (ps_expr (pos := p3) hp)
    exact hq.run pins s' σ H' D I ⟨h1, h2, h3⟩
  · exact ⟨fun cls _ H' => ∃ b, PySem.W.exmOne X.K cls (.ref CS) = some b ∧ (b = true → Q (.bl b1) H') ∧ (b = false → False), fun cls d σ' H' ⟨b, e1, e2, e3⟩ => ⟨b, e1, fun hb a _ => e2 hb, fun hb => e3 hb⟩, h0 f, hc, h⟩
theorem told_gives2 {Ng : List Str} {x a e1 e2 q r1 r2 : Str} {sg : Scope} {g C1 C2 : Addr} {cdg : Value} {j1 j2 : Nat} {p1 p2 p3 p4 p5 p6 p7 p8 p9 p10 p11 p12 : Pos} {k1 k2 : Expr} (hk1 : k1 = .Constant (.str r1) j1 p5) (hk2 : k2 = .Constant (.str r2) j2 p9)
    (hg1 : sg.names.lookup e1 = some .globalImplicit) (hm1 : X.mg e1 = some (.ref C1)) (hd1 : (e1 == ("__debug__" : Str)) = false) (hg2 : sg.names.lookup e2 = some .globalImplicit) (hm2 : X.mg e2 = some (.ref C2)) (hd2 : (e2 == ("__debug__" : Str)) = false)
    (h0 : ∀ f : Addr, (L2.start Ng [V.ref f])[0]? = some (some (V.ref f))) :
    GivesTo X Ng x sg g cdg [.Try [.Return (some (.Call (.Name a p1) [] [] p2)) p3] [.ExceptHandler (some (.Name e1 p4)) none [.Return (some k1) p6] p7, .ExceptHandler (some (.Name e2 p8)) none [.Return (some k2) p10] p11] [] [] p12] a q (TTold2 X.K C1 C2 r1 r2) := by
  subst hk1 hk2
  intro f c' s H Q tl act hc h
  have n1 : Names (cxOf C8.CX0 X.prog X.w X.K X.mg X.base Ng x sg g cdg X.A X.stack s H C8.E0).nox e1 (.ref C1) := ⟨hg1, hd1, .inl hm1⟩
  have n2 : Names (cxOf C8.CX0 X.prog X.w X.K X.mg X.base Ng x sg g cdg X.A X.stack s H C8.E0).nox e2 (.ref C2) := ⟨hg2, hd2, .inl hm2⟩
  refine ⟨_, pss_one (ps_try_many (X := (cxOf C8.CX0 X.prog X.w X.K X.mg X.base Ng x sg g cdg X.A X.stack s H C8.E0).nox)
      (tb := fun W D σ H => ∃ Ech : XK, (∀ cls d σ' H', Ech cls d H' → W cls d σ' H') ∧ σ[0]? = some (some (.ref f)) ∧ H c' = some (CodeO c' q) ∧ tl Ech H D.rt)
      rfl rfl L2.takes0 (fun W pn xe tk _ => ?_) (.cons n1 (fun a oe cls d pn _ _ => pss_one (ps_ret pe_str)) (.cons n2 (fun a oe cls d pn _ _ => pss_one (ps_ret pe_str)) .nil))), ?_⟩
  · refine ⟨fun pins s' σ H' D I h' => ?_⟩
    obtain ⟨Ech, hW, h1, h2, h3⟩ := h'
    have hp := act W pn xe Ech p1 p2 tk hW
    have hq := pss_one (ps_ret (pos := p3) hp)
    exact hq.run pins s' σ H' D I ⟨h1, h2, h3⟩
  · refine ⟨_, fun cls d σ' H' ⟨b, e1, e2, e3⟩ => ⟨b, e1, fun hb a _ => e2 hb, fun hb => ?_⟩, h0 f, hc, h⟩
    obtain ⟨b', f1, f2, f3⟩ := e3 hb
    exact ⟨b', f1, fun hb a _ => f2 hb, fun hb => (f3 hb).elim⟩
end
end Z
set_option Elab.async false
set_option linter.all false
set_option maxRecDepth 100000
set_option maxHeartbeats 2000000
/-! Z30: lambdas in the own semantics. -/
namespace Z
open PySem PySem.Spec PyProof.Rows L2 LamX
section
variable {ca : Cn} {μ : List Addr} {F H H1 : Hp} {h : Own}
theorem codeO_lst {c : Addr} {q : Str} {vs : List V} : HO.lst vs ≠ CodeO c q := fun z => by unfold CodeO at z; cases z
theorem code_ne {P : Program} {w : World} {a : Addr} {xs : List NX} {q : Str} (e : NDict P w a xs = CodeO a q) : False := by
  unfold NDict CodeO at e
  have e' := HO.ext.inj e
  let oc : Obj := { cls := .none, data := .fields #[.none, .str q 0] }
  let h : Heap := { objs := Array.replicate (a + 1) oc }
  have g : h.get? a = some oc := by
    have q : (Array.replicate (a + 1) oc)[a]? = some oc := by simp
    show (match (Array.replicate (a + 1) oc)[a]? with
      | some ⟨_, _, .freed, _⟩ => none
      | o => o) = some oc
    rw [q]
  have c : ∃ (oc : Obj) (vs : Array Value) (t : Tok), h.get? a = some oc ∧ oc.data = .fields vs ∧ vs[1]? = some (.str q t) := ⟨oc, #[.none, .str q 0], 0, g, rfl, rfl⟩
  have := congrFun e' h
  have d := this.mpr c
  obtain ⟨_, _, _, ys, _, o, es, ep, h1, _, h3, _⟩ := d
  rw [g] at h1
  cases h1
  cases h3
theorem OR.noCode {a : Addr} {o : O} {q : Str} (r : OR ca μ F H a o) (n0 : o ≠ .dead) (e : H a = some (CodeO a q)) : False := by
  cases o with
  | dead => exact n0 rfl
  | lst _ => obtain ⟨_, q, _⟩ := r; rw [e] at q; unfold CodeO at q; cases q
  | dK _ => obtain ⟨_, q, _⟩ := r; rw [e] at q; unfold CodeO at q; cases q
  | dT _ => obtain ⟨_, q, _⟩ := r; rw [e] at q; unfold CodeO at q; cases q
  | ins _ _ => obtain ⟨_, _, q, _⟩ := r; rw [e] at q; unfold CodeO at q; cases q
  | lkK _ => obtain ⟨_, _, q, _⟩ := r; rw [e] at q; unfold CodeO at q; cases q
  | lkT _ => obtain ⟨_, _, q, _⟩ := r; rw [e] at q; unfold CodeO at q; cases q
  | tb _ => obtain ⟨_, _, q, _⟩ := r; rw [e] at q; unfold CodeO at q; cases q
  | dN _ => obtain ⟨xs, q, _⟩ := r; rw [e] at q; exact code_ne (Option.some.inj q).symm
/-- the own table as HandS knows it -/
theorem tab_of {j : Nat} {P : Addr} {q : Str} (R : RelH ca μ F h H) (hj : h[j]? = some (.tb j)) (hp : ca.tb j = (P, q)) : μ[j]? = some P ∧ TabS H P q ∧ F P = none := by
  have hl : j < μ.length := by rw [R.len]; exact (List.getElem?_eq_some_iff.mp hj).1
  have hm := List.getElem?_eq_getElem hl
  have o := R.ob j _ _ hm hj
  obtain ⟨e0, ps, e, trip, among⟩ := o
  rw [hp] at e0 among
  have e0' : μ[j] = P := e0
  rw [e0'] at hm e
  refine ⟨hm, ⟨ps, e, trip, fun pos cv hc => ?_⟩, R.sep j P _ hm hj (fun z => nomatch z)⟩
  obtain ⟨c, e1, e2⟩ := among pos cv hc
  exact ⟨c, e1, R.fz _ _ e2⟩
open Classical in
theorem shift_tab {j : Nat} {P : Addr} {q : Str} (R : RelH ca μ F h H) (hj : h[j]? = some (.tb j)) (hp : ca.tb j = (P, q)) (st : Stay1 P H H1) (T1 : TabS H1 P q) : ∃ F', RelH ca μ F' h H1 ∧ ∀ b, Ext b μ F H h μ F' H1 h := by
  obtain ⟨mP, T0, FP⟩ := tab_of R hj hp
  obtain ⟨ps1, t1, trip1, among1⟩ := T1
  have nF : ∀ b u, F b = some u → b ≠ P := fun b u e z => by rw [z, FP] at e; cases e
  have keepF : ∀ b u, F b = some u → H1 b = some u := fun b u e => st b u (R.fz _ _ e) (nF b u e)
  have PC : ∀ a q', H1 a = some (CodeO a q') → a ≠ P := fun a q' e z => by
    rw [z] at e
    rw [t1] at e
    exact codeO_ne ps1 (Option.some.inj e).symm
  let F' : Hp := fun b => if ∃ q', H1 b = some (CodeO b q') then H1 b else F b
  have hF' : ∀ b, F' b = if ∃ q', H1 b = some (CodeO b q') then H1 b else F b := fun _ => rfl
  have sF : Same F F' := fun b u e => by
    rw [hF']
    split
    · exact keepF b u e
    · exact e
  have fz : Same F' H1 := fun b u e => by
    rw [hF'] at e
    split at e
    · exact e
    · exact keepF b u e
  have inμ : P ∈ μ := List.mem_of_getElem? mP
  refine ⟨F', ⟨R.len, R.nd, fz, fun n a o e1 e2 e3 => ?_, fun a ha => ?_, fun n a o e1 e2 => ?_⟩, fun b => ⟨⟨[], by simp, by simp⟩, sF, fun a o e hm => st a o e (by rintro rfl; exact hm inμ), fun a e => ?_, fun a e => ?_, fun _ _ _ e => .inl e, fun n a o e1 e2 e3 => ⟨e2, fun u e => ?_⟩⟩⟩
  · rw [hF']
    split
    · rename_i z
      obtain ⟨q', z⟩ := z
      have ne := PC a q' z
      have hd := R.dom a (List.mem_of_getElem? e1)
      cases ha : H a with
      | none => exact absurd ha hd
      | some u =>
        have := st a u ha ne
        rw [z] at this
        cases this
        exact ((R.ob n a o e1 e2).noCode e3 ha).elim
    · exact R.sep n a o e1 e2 e3
  · by_cases hP : a = P
    · rw [hP, t1]; simp
    · have hd := R.dom a ha
      cases e : H a with
      | none => exact absurd e hd
      | some u => rw [st a u e hP]; simp
  · by_cases hP : a = P
    · subst hP
      have hn : n = j := by
        obtain ⟨l1, q1⟩ := List.getElem?_eq_some_iff.mp e1
        obtain ⟨l2, q2⟩ := List.getElem?_eq_some_iff.mp mP
        exact (List.getElem_inj R.nd).mp (q1.trans q2.symm)
      subst hn
      rw [hj] at e2
      cases e2
      refine ⟨by rw [hp], ps1, t1, trip1, fun pos cv hc => ?_⟩
      obtain ⟨c, z1, z2⟩ := among1 pos cv hc
      refine ⟨c, z1, ?_⟩
      rw [hp, hF', if_pos ⟨q, z2⟩]
      exact z2
    · exact (R.ob n a o e1 e2).mono (fun _ _ z => z) sF fun u e => st a u e hP
  · by_cases hP : a = P
    · rw [hP, t1]; simp
    · cases z : H a with
      | none => exact absurd z e
      | some u => rw [st a u z hP]; simp
  · by_cases hc : ∃ q', H1 a = some (CodeO a q')
    · obtain ⟨q', z⟩ := hc
      have ne := PC a q' z
      cases ha : H a with
      | none => exact .inr (.inr (.inl rfl))
      | some u =>
        have := st a u ha ne
        rw [z] at this
        cases this
        exact .inr (.inr (.inr (.inr ⟨q', rfl⟩)))
    · have e' : (if ∃ q', H1 a = some (CodeO a q') then H1 a else F a) ≠ none := e
      rw [if_neg hc] at e'
      exact .inl e'
  · have hP : a ≠ P := by
      rintro rfl
      have hn : n = j := by
        obtain ⟨l1, q1⟩ := List.getElem?_eq_some_iff.mp e1
        obtain ⟨l2, q2⟩ := List.getElem?_eq_some_iff.mp mP
        exact (List.getElem_inj R.nd).mp (q1.trans q2.symm)
      subst hn
      rw [hj] at e2
      cases e2
      cases e3
    exact st a u e hP
end
def isTb (h : Own) (j : Nat) : Bool := match h[j]? with
  | some (.tb j') => j' == j
  | _ => false
theorem isTb_get {h : Own} {j : Nat} (e : isTb h j = true) : h[j]? = some (.tb j) := by
  unfold isTb at e
  split at e
  · rename_i j' q
    rw [q, eq_of_beq e]
  · cases e
/-- g(lambda: x), T: what g makes of x -/
def eLam (j : Nat) (T : Res R → Res R) (x : EX) : EX := fun τ h => if isTb h j = true then T (x τ h) else .stuck
/-- how g's rule answers T -/
def Tells (ca : Cn) (TT : (XK → Hp → VK → Prop) → Hp → VK → Prop) (T : Res R → Res R) : Prop := ∀ {xb : EX} {W : WF} {σ : L2.St} {H : Hp} {Q : VK} {μ : List Addr} {F : Hp} {τ : Fm} {h : Own}, At ca μ F τ h σ H →
  PostG ca τ.b μ F H h (T (xb τ h)) (wx ca W σ) (fun r μ1 F1 H1 _ => ∀ v, RR ca μ1 F1 H H1 v r → Q v H1) → TT (fun E H' Q' => rdE ca (fun cls d _ H' => E cls d H') xb σ H' Q') H Q
section
variable {ca : Cn} {X : Cx} {W : WF}
theorem se_lam {TT : (XK → Hp → VK → Prop) → Hp → VK → Prop} {T : Res R → Res R} {x a q : Str} {c P : Addr} {j k : Nat} {params : Arguments} {body : Expr} {scope : Scope} {xb : EX} {p lpos pos : Pos} (hg : Gl X x) (G : Gets X x a k TT q) (tl : Tells ca TT T)
    (TB : TabB X.base X.mg c P) (hcode : X.env.code = .ref c) (hq : X.env.qual ++ "<lambda>" = q) (hp : ca.tb j = (P, q)) (hr : Room (k + 2) X.A) (L : lamSB X.env.scope scope = true) (hdef : defaultsOf params X.env = ([], []))
    (hbind : ∀ (q : Str) (cl : List (Str × Addr)) (pm cv ctv : Value), bindArgs (PySem.W.kla_fn "<lambda>" q params body scope cl pm cv ctv) ⟨[], []⟩ = pure [])
    (hbody : ∀ (A : Around) (outer : List Env) (s : Shared) (H : Hp) (E : XK) (f c' : Addr), Room k (A.deeper (lamEnv X scope s.heap.objs.size f c')) → SE ca (lamCx X A outer s H E scope f c') (fun cls d _ H' => E cls d H') body xb)
    (hdb : (x == ("__debug__" : Str)) = false) (hd : (a == ("__debug__" : Str)) = false) (hcd : (a == ("__classdict__" : Str)) = false) :
    SE ca X W (.Call (.Name x p) [.Lambda params body scope lpos] [] pos) (eLam j T xb) :=
  PE.imp (pe_lam (t := fun E => rdE ca (fun cls d _ H' => E cls d H') xb) hg G TB hcode hq hr (lamS_by L) hdef hbind hbody hdb hd hcd) fun σ H Q ⟨μ, F, τ, h, A, p⟩ => by
    unfold eLam at p
    by_cases hj : isTb h j = true
    · rw [if_pos hj] at p
      have hj' := isTb_get hj
      obtain ⟨mP, T0, _⟩ := tab_of A.rel hj' hp
      refine ⟨T0, fun H1 st T1 => ?_⟩
      obtain ⟨F', R', E'⟩ := shift_tab A.rel hj' hp st T1
      refine tl (W := W) (A.ext (E' 0) R') ?_
      -- what is wished from the heap ahead, wished from the heap behind
      have E1 := E' τ.b
      generalize T (xb τ h) = r at p
      cases r with
      | stuck => exact p
      | exc c h1 => exact fun μ1 F1 H2 E2 R2 => p μ1 F1 H2 (E1.trans E2) R2
      | ok a h1 => exact fun μ1 F1 H2 E2 R2 v V => p μ1 F1 H2 (E1.trans E2) R2 v (RR.back E1 V)
    · rw [if_neg hj] at p
      exact p.elim
end
/-! ### what the defs make of it -/
def tlCode (c : Nat) (b1 b2 : Bool) : Res R → Res R
  | .ok _ h => .ok (.v (.bl b2)) h
  | .exc k h => if k = c then .ok (.v (.bl b1)) h else .stuck
  | .stuck => .stuck
def tlTold (c1 : Nat) (r1 : Str) (c2 : Nat) (r2 : Str) : Res R → Res R
  | .ok r h => .ok r h
  | .exc k h => if k = c1 then .ok (.v (.str r1)) h else if k = c2 then .ok (.v (.str r2)) h else .stuck
  | .stuck => .stuck
theorem tells_code {ca : Cn} {K : PySem.W.Frag} {c : Nat} {b1 b2 : Bool} (em : PySem.W.exmOne K (.ref (ca.ad c)) (.ref (ca.ad c)) = some true) : Tells ca (TCode K (ca.ad c) b1 b2) (tlCode c b1 b2) := by
  intro xb W σ H Q μ F τ h A p
  refine ⟨μ, F, τ, h, A, ?_⟩
  cases hx : xb τ h with
  | stuck => rw [hx] at p; exact p
  | ok r h1 =>
    rw [hx] at p
    exact fun μ1 F1 H1 E1 R1 v V => p μ1 F1 H1 E1 R1 (.bl b2) (show VR ca _ _ _ _ from .bl b2)
  | exc k h1 =>
    rw [hx] at p
    unfold tlCode at p
    by_cases hk : k = c
    · dsimp only at p
      rw [if_pos hk] at p
      subst hk
      exact fun μ1 F1 H1 E1 R1 => ⟨true, em, fun _ => p μ1 F1 H1 E1 R1 (.bl b1) (show VR ca _ _ _ _ from .bl b1), fun z => nomatch z⟩
    · dsimp only at p
      rw [if_neg hk] at p
      exact p.elim
theorem tells_told {ca : Cn} {K : PySem.W.Frag} {c1 c2 : Nat} {r1 r2 : Str} (em1 : PySem.W.exmOne K (.ref (ca.ad c1)) (.ref (ca.ad c1)) = some true) (em2 : PySem.W.exmOne K (.ref (ca.ad c2)) (.ref (ca.ad c2)) = some true)
    (em3 : PySem.W.exmOne K (.ref (ca.ad c2)) (.ref (ca.ad c1)) = some false) : Tells ca (TTold2 K (ca.ad c1) (ca.ad c2) r1 r2) (tlTold c1 r1 c2 r2) := by
  intro xb W σ H Q μ F τ h A p
  refine ⟨μ, F, τ, h, A, ?_⟩
  cases hx : xb τ h with
  | stuck => rw [hx] at p; exact p
  | ok r h1 => rw [hx] at p; exact p
  | exc k h1 =>
    rw [hx] at p
    unfold tlTold at p
    dsimp only at p
    by_cases hk : k = c1
    · rw [if_pos hk] at p
      subst hk
      exact fun μ1 F1 H1 E1 R1 => ⟨true, em1, fun _ => p μ1 F1 H1 E1 R1 (.str r1) (show VR ca _ _ _ _ from .str r1), fun z => nomatch z⟩
    · rw [if_neg hk] at p
      by_cases hk2 : k = c2
      · rw [if_pos hk2] at p
        subst hk2
        exact fun μ1 F1 H1 E1 R1 => ⟨false, em3, (fun z => nomatch z), fun _ => ⟨true, em2, fun _ => p μ1 F1 H1 E1 R1 (.str r2) (show VR ca _ _ _ _ from .str r2), fun z => nomatch z⟩⟩
      · rw [if_neg hk2] at p
        exact p.elim
/-! ### a def that makes lambdas: its code is known -/
section
variable {P : Program} {w : World} {K : PySem.W.Frag} {mg : Str → Option Value} {base : Heap} {ca : Cn}
theorem def_okL {x qual : Str} {st : Stmt} {f : Addr} {oc : Value} {od an : Option Addr} {osl : Array (Option Value)} {kV doc pm cdv ct : Value} {N ps : List Str} {k : Nat} {bd : ST}
    (l : K.lookup f = some ⟨oc, od, .func (PySem.W.fnOf x qual (defArgs st) (defBody st) (defScope st) .none kV doc pm an cdv ct), osl⟩) (c : PySem.W.codeIn K cdv qual = true) (S : FnScope N ps (defScope st))
    (hb : ∀ (A : Around) (outer : List Env) (s : Shared) (H : Hp) (E : XK), Room k (A.deeper (PyProof.Rows.envOfC qual (defScope st) s.heap.objs.size f cdv)) →
      SSs ca (cxOf (L2.CX P w) P w K mg base N qual (defScope st) f cdv A outer s H E) (fun cls d _ H' => E cls d H') (defBody st) bd) :
    FnOk P w K mg base (L2.CX P w) (k + 1) f (PySem.W.fnOf x qual (defArgs st) (defBody st) (defScope st) .none kV doc pm an cdv ct) ps (spB ca ps.length (body N.length bd)) := by
  refine fn_of l c S (fun vs H Q E ⟨μ, F, h, ds, b, R, V, hl, _, _⟩ => by rw [V.length, hl]) (fun A outer s H vs Q E hr ⟨μ, F, h, ds, b, R, V, hl, hbl, p⟩ => ?_)
  refine ⟨_, hb A outer s H E hr, μ, F, ⟨b, ds.map some ++ List.replicate (N.length - ds.length) none⟩, h, ⟨R, ⟨?_, ?_⟩, hbl⟩, ?_⟩
  · show _ = (L2.start N vs).length
    unfold L2.start
    simp [V.length]
  · intro i d hi
    by_cases hlt : i < ds.length
    · rw [List.getElem?_append_left (by simpa using hlt), List.getElem?_map] at hi
      cases e1 : ds[i]? with
      | none => rw [e1] at hi; cases hi
      | some d' =>
        rw [e1] at hi
        cases hi
        obtain ⟨v, ev, rv⟩ := V.get e1
        refine ⟨v, ?_, rv⟩
        unfold L2.start
        rw [List.getElem?_append_left (by rw [List.length_map, V.length]; exact hlt), List.getElem?_map, ev]
        rfl
    · rw [List.getElem?_append_right (by simpa using hlt), List.getElem?_replicate] at hi
      split at hi <;> cases hi
  · show PostS ca _ b μ F H h (bd ⟨b, ds.map some ++ List.replicate (N.length - ds.length) none⟩ h) _
    have p' : PostF ca b μ F H h (bd ⟨b, ds.map some ++ List.replicate (N.length - ds.length) none⟩ h) Q E := p
    generalize bd ⟨b, ds.map some ++ List.replicate (N.length - ds.length) none⟩ h = r at p'
    cases r with
    | next s h1 => exact fun μ1 F1 H1 σ1 E1 R1 S1 => p' μ1 F1 H1 E1 R1
    | ret r h1 => exact p'
    | exc c s h1 => exact fun μ1 F1 H1 σ1 E1 R1 S1 => p' μ1 F1 H1 E1 R1
    | _ => exact p'.elim
end
end Z
set_option Elab.async false
set_option linter.all false
set_option maxRecDepth 100000
/-! Z31: the end of a law whose text makes lambdas. -/
namespace Z
open PySem PySem.Spec PyProof.Rows L2 LamX
/-- what is known of the makers' tables -/
structure TabF (K : PySem.W.Frag) (ca : Cn) (ns : List Str) (cs : List (Addr × Addr)) : Prop where
  len : cs.length = ns.length
  ix : ∀ (j : Nat) (x : Str), ns[j]? = some x → ∃ p, cs[j]? = some p ∧ PySem.W.tabIn K x = some p
  no : ∀ p ∈ cs, K.lookup p.2 = none
  nd : (cs.map (·.2)).Nodup
  tb : ∀ (j : Nat) (p : Addr × Addr), cs[j]? = some p → (ca.tb j).1 = p.2
theorem walk_tab {l : PySem.W.OpenLaw} {n k : Nat} {q : Program} {loose : List Str} {XP : (Str → Option Value) → Heap → Prop} {YP : World → Heap → Prop} {d : DefRec} {K : Params → PySem.W.Frag} {x : Str} {B : BD} {ns : List Str}
    (hn : l.most = some n) (hn2 : n ≤ sizeLine) (hdf : d.params.defaults = []) (hr : Room k callerA) (hrec : ∀ x ∈ ns, ∃ e, (recsOf q).find? (fun r => r.name == x) = some e) (hY : ∀ (w : World) (h : Heap), YP w h → (K w.params).In h)
    (hlaw : ∀ is : List Int, is.length ≤ n → ∃ h, B 0 [.ro is] (tabs ns.length) = .ret (.v (.bl true)) h)
    (F : ∀ (w : World) (mg : Str → Option Value) (fa : Addr) (h : Heap), (K w.params).In h → h.Ns mainGlobals mg → mg d.name = some (.ref fa) → ∃ (fd : FuncData) (cs : List (Addr × Addr)) (ca : Cn), TabF (K w.params) ca ns cs ∧ (∀ a is, roK (K w.params) a is → ca.ro a is) ∧
      (∀ (s : Shared) (u : Value), BindsTo s fd ⟨[u], []⟩ [(x, u)]) ∧ ∀ base : Heap, (K w.params).In base → base.Ns mainGlobals mg → (∀ p ∈ cs, TabB base mg p.1 p.2) → FnOk l.prog w (K w.params) mg base (L2.CX l.prog w) k fa fd [x] (spB ca 1 B)) :
    PySem.W.WalkO q loose XP YP l.row.toRowW d [] (fun f vs => PySem.call f vs) := by
  refine Att.attach_callB hn hdf fun w s₀ s₁ mg mb fa o pm cd doc a vs is G Y ho hd hcd hmg hobj hints hlen hbits hg => ?_
  have KX := hY w _ Y
  obtain ⟨fd, cs, ca, T, hro, hb, hF⟩ := F w mg fa _ KX G.T.g hmg
  have tab : ∀ p ∈ cs, PySem.W.CodeHd s₁.heap p.1 p.2 ∧ s₁.heap.get? p.2 = some { cls := .none, data := .fields #[] } := by
    intro p hp
    obtain ⟨j, hj⟩ := List.mem_iff_getElem?.mp hp
    have jl := (List.getElem?_eq_some_iff.mp hj).1
    have jl2 : j < ns.length := by rw [← T.len]; exact jl
    obtain ⟨p', e1, e2⟩ := T.ix j ns[j] (List.getElem?_eq_getElem jl2)
    rw [hj] at e1
    cases e1
    obtain ⟨e, he⟩ := hrec _ (List.getElem_mem jl2)
    exact PySem.W.tab_of (c := p.1) (P := p.2) G.T KX he e2
  exact law_callTs KX G.T.g G.T.b G.T.builtins G.T.nolimit hg (fun p hp => (tab p hp).2) T.no (fun p hp => (tab p hp).1) G.T.bmain hobj hints (Nat.le_trans hlen hn2) hr hF hb
    (fun H hH hS => entry hro hH T.nd T.tb hS (by rw [T.len]; exact hlaw is hlen)) fun H e s' => cx_end
end Z
set_option Elab.async false
set_option linter.all false
set_option maxRecDepth 100000
set_option maxHeartbeats 1000000
/-! Z32: a, b, c = x, y, z; o.f op= e. -/
namespace Z
open PySem PySem.Spec L2
section
variable {ca : Cn} {X : Cx} {W : WF} {pos : Pos} {e a b c : Expr}
def sPar3 (i j k : Nat) (xs : EA) : ST := sE xs fun ds τ h => match ds with
  | [x, y, z] => .next (((τ.s.set i (some x)).set j (some y)).set k (some z)) h
  | _ => .stuck
theorem ss_par3 {i j l : Nat} {x y z : Str} {ta : EA} {px py pz pt : Pos} {kt k2 : Nat} {pt2 : Pos} (hc : X.calm = true) (hN : X.N.Nodup) (hi : X.N[i]? = some x) (hj : X.N[j]? = some y) (hl : X.N[l]? = some z) (hij : i ≠ j) (hil : i ≠ l) (hjl : j ≠ l)
    (hx : X.env.scope.names.lookup x = some .local) (hy : X.env.scope.names.lookup y = some .local) (hz : X.env.scope.names.lookup z = some .local) (ha : SA ca X W [a, b, c] ta)
    (hw : swappedStores [.Tuple [.Name x px, .Name y py, .Name z pz] kt pt] (.Tuple [a, b, c] k2 pt2) X.env = pure (some [x, y, z]))
    (hs : swapsWithSole [.Tuple [.Name x px, .Name y py, .Name z pz] kt pt] (.Tuple [a, b, c] k2 pt2) pos.line X.env = pure false) :
    SS ca X W (.Assign [.Tuple [.Name x px, .Name y py, .Name z pz] kt pt] (.Tuple [a, b, c] k2 pt2) pos) (sPar3 i j l ta) := PS.imp (ps_par3 hc hN hi hj hl hij hil hjl hx hy hz ha hw hs) fun D σ H ⟨μ, F, τ, h, A, p⟩ => ⟨μ, F, τ, h, A, (sE_post A p).imp fun ds μ1 F1 H1 h1 E1 R1 q vs Vs => by
    split at q
    · obtain ⟨u, v, w, rfl, V1, V2, V3⟩ := Vs.three
      exact ⟨u, v, w, rfl, q μ1 F1 H1 _ Ext.refl R1 ((((E1.sr A.sl).set i V1).set j V2).set l V3)⟩
    · exact q.elim⟩
/-! ### o.f op= e -/
def fldG (cs : List Nat) (i : Nat) (d : D) (h : Own) : Option D := match d with
  | .ref n => match h[n]? with
    | some (.ins c fs) => if c ∈ cs then fs[i]? else none
    | _ => none
  | _ => none
def sAtA (cs : List Nat) (i : Nat) (g : F2) (o x : ED) : ST := sE o fun d τ h => match fldG cs i d h with
  | some v => sE x (fun y τ h => sE (ed fun _ h => g v y h) (fun z τ h => match fAtt cs i τ.b d z h with
    | some h1 => .next τ.s h1
    | none => .stuck) τ h) τ h
  | none => .stuck
theorem ss_fldaug {c0 : Nat} {i : Nat} {f : Str} {o : Expr} {op : Operator} {r : R2} {g : F2} {tpos : Pos} {xo x : ED} (ho : SD ca X W o xo) (hx : SD ca X W e x) (hop : OpR X (inplaceOp op) r) (lk : Lk2 ca g r)
    (hc : ∀ c ∈ [c0], Cls X.K (ca.ad c) ∧ NoAttr X.K (ca.ad c) f ∧ (ca.nm c).Nodup ∧ (ca.nm c)[i]? = some f) : SS ca X W (.AugAssign (.Attribute o f tpos) op e pos) (sAtA [c0] i g xo x) :=
  PS.imp (ps_fldaug ho hx hop) fun D σ H ⟨μ, F, τ, h, A, p⟩ => ⟨μ, F, τ, h, A, (sE_post A p).imp fun d μ1 F1 H1 h1 E1 R1 q vo Vo => by
    have A1 := A.ext E1 R1
    cases eg : fldG [c0] i d h1 with
    | none => rw [eg] at q; exact q.elim
    | some v =>
      rw [eg] at q
      cases Vo with
      | ref en =>
        rename_i a n
        unfold fldG at eg
        dsimp only at eg
        split at eg
        · rename_i c fs e0
          by_cases hm : c ∈ [c0]
          · rw [if_pos hm] at eg
            obtain ⟨k1, k2, k3, k4⟩ := hc c hm
            obtain ⟨dx, fvs, w1, w2, w3⟩ := R1.ob n _ _ en e0
            obtain ⟨w, ew, rw'⟩ := w3.get eg
            have hi : i < fs.length := (List.getElem?_eq_some_iff.mp eg).1
            refine ⟨a, _, dx, fvs, w, rfl, w1, k1, k2, fld_at w2 (List.Nodup.sublist (List.take_sublist _ _) k3) ?_ rfl ew, ?_⟩
            · rw [List.getElem?_take, if_pos hi]; exact k4
            refine ⟨μ1, F1, τ, h1, A1, (sE_post A1 q).imp fun y μ2 F2 H2 h2 E2 R2 q2 vy Vy => ?_⟩
            have A2 := A1.ext E2 R2
            have q3 := sE_post A2 q2
            refine lk τ.b μ2 F2 H2 h2 (wx ca W σ) w vy v y _ R2 (E2.vr rw') Vy A2.bl (frz_post (Q := fun z H3 => ∃ dx' fs', H3 a = some (.ins (ca.ad c) dx' fs') ∧ fs'.length < 1000 ∧ D.nx σ (upd H3 a (.ins (ca.ad c) dx' (putF f z fs')))) (q3.imp fun z μ3 F3 H3 h3 E3 R3 q4 vz Vz => ?_))
            have A3 := A2.ext E3 R3
            cases ep : fAtt [c0] i τ.b (.ref n) z h3 with
            | none => rw [ep] at q4; exact q4.elim
            | some h4 =>
              rw [ep] at q4
              unfold fAtt at ep
              dsimp only at ep
              have en3 := (E3.ix _ _ (E2.ix _ _ en))
              split at ep
              · rename_i c' fs' e3
                by_cases hm' : c' ∈ [c0] ∧ fs'.length < 1000
                · rw [if_pos hm'] at ep
                  cases ea : attD i z fs' with
                  | none => rw [ea] at ep; cases ep
                  | some fs2 =>
                    rw [ea] at ep
                    obtain ⟨dx3, fvs3, y1, y2, y3⟩ := R3.ob n _ _ en3 e3
                    obtain ⟨l1, l2, l3, l4⟩ := hc c' hm'.1
                    obtain ⟨z1, z2⟩ := att_ok l3 l4 y2 y3 Vz ea
                    obtain ⟨R4, E4⟩ := put_ok R3 en3 e3 rfl ep (u := .ins (ca.ad c') dx3 (putF f vz fvs3)) fun H' q => ⟨dx3, _, q, z1, z2⟩
                    have hl := y3.length
                    rw [List.length_map] at hl
                    by_cases hcc : c' = c
                    · subst hcc
                      exact ⟨dx3, fvs3, y1, by omega, q4 μ3 F3 _ σ E4 R4 (E4.sr A3.sl)⟩
                    · exact absurd ((List.mem_singleton.mp hm'.1).trans (List.mem_singleton.mp hm).symm) hcc
                · rw [if_neg hm'] at ep; cases ep
              · cases ep
          · rw [if_neg hm] at eg; cases eg
        · cases eg
      | _ => cases eg⟩
end
end Z
set_option Elab.async false
set_option linter.all false
set_option maxRecDepth 100000
/-! Z33: small facts that printed proofs ask for. -/
namespace Z
open PySem PySem.Spec L2
theorem hu65_of {A : Around} {k : Nat} (hr : Room k A) : A.units + 65 < cLine := by have := hr.un; omega
theorem hu64_of {A : Around} {k : Nat} (hr : Room k A) : A.units + 64 < cLine := by have := hr.un; omega
theorem hu1_of {A : Around} {k : Nat} (hr : Room k A) : A.units + 1 < cLine := by have := hr.un; omega
theorem exm_other' {K : PySem.W.Frag} {C D : Addr} (i : PySem.W.isClsIn K D = true) (t : PySem.W.typeIn K (.ref D) = some (.type "type")) (s : PySem.W.subIn K (.ref C) (.ref D) = some false)
    (b2 : PySem.W.subIn K (.ref D) (.type "BaseException") = some true) : PySem.W.exmOne K (.ref C) (.ref D) = some false := by
  have i' : (PySem.W.clsIn K D).isSome = true := i
  have z1 : (PySem.W.subIn K (.ref D) (.type "BaseException") == some true) = true := by rw [b2]; rfl
  have z2 : ((PySem.W.clsIn K D).isSome && PySem.W.typeIn K (.ref D) == some (.type "type")) = true := by rw [i', t]; rfl
  unfold PySem.W.exmOne
  rw [if_pos z1]
  exact (if_pos z2).trans s
theorem tab_mk {K : PySem.W.Frag} {x : Str} {E c P : Addr} {oc oq : Value} {od dq : Option Addr} {sl sq : Array (Option Value)} {fd : FuncData} {vs : Array Value} (a : PySem.W.nsIn K mainGlobals x = some (some (.ref E))) (l : K.lookup E = some ⟨oc, od, .func fd, sl⟩)
    (hc : fd.code = .ref c) (q : K.lookup c = some ⟨oq, dq, .fields vs, sq⟩) (v : vs[11]? = some (.ref P)) : PySem.W.tabIn K x = some (c, P) := by
  unfold PySem.W.tabIn
  rw [a]
  simp only [l, hc, q, v]
end Z
set_option Elab.async false
set_option linter.all false
set_option maxRecDepth 100000
/-! Z34: to compute with methods, lambdas, calls of the law's own frame. -/
namespace Z
open PySem PySem.Spec L2
section
variable {τ : Fm} {h : Own} {c n i j k b : Nat} {G : BD} {xs : EA} {o x : ED} {cl : CL} {ds : List D} {d : D} {cs : List Nat} {g : F2} {T : Res R → Res R} {xe : EX}
@[simp] theorem eMeth_eq : eMeth cl c n G o xs τ h = (o τ h).bind fun d h1 => if isIns c h1 d = true then ((xs τ h1).bind fun ds h2 => if ds.length + 1 = n then cl τ.b G (d :: ds) h2 else .stuck) else .stuck := rfl
@[simp] theorem eCallC_eq : eCallC cl n G xs τ h = (xs τ h).bind fun ds h1 => if ds.length = n then cl τ.b G ds h1 else .stuck := rfl
@[simp] theorem clN_eq : clN b G ds h = callB G ds h := rfl
@[simp] theorem clK_eq : clK b G ds h = callK G ds h := rfl
@[simp] theorem clE_eq : clE b G ds h = callE b G ds h := rfl
@[simp] theorem isIns_obj {c' : Nat} {fs : List D} : isIns c h (.obj c' fs) = (c' == c) := rfl
@[simp] theorem isIns_ref : isIns c h (.ref n) = (match h[n]? with
    | some (.ins c' _) => c' == c
    | _ => false) := rfl
@[simp] theorem eMkK_eq : eMkK c n G xs τ h = (xs τ h).bind fun ds h1 => if ds.length + 1 = n then
  (match G h1.length (.ref h1.length :: ds) (h1 ++ [.ins c []]) with
  | .next _ h3 => .ok (.v (.ref h1.length)) h3
  | .exc k _ h3 => .exc k h3
  | _ => .stuck) else .stuck := rfl
@[simp] theorem eLam_eq : eLam j T xe τ h = if isTb h j = true then T (xe τ h) else .stuck := rfl
@[simp] theorem fFld_ref : fFld cs i (.ref n) h = (match h[n]? with
    | some (.ins c fs) => if c ∈ cs then (match fs[i]? with | some d => .ok (.v d) h | none => .stuck) else .stuck
    | _ => .stuck) := by
  unfold fFld
  rfl
@[simp] theorem sAtA_eq : sAtA cs i g o x τ h = sE o (fun d τ h => match fldG cs i d h with
  | some v => sE x (fun y τ h => sE (ed fun _ h => g v y h) (fun z τ h => match fAtt cs i τ.b d z h with
    | some h1 => .next τ.s h1
    | none => .stuck) τ h) τ h
  | none => .stuck) τ h := rfl
@[simp] theorem fldG_ref : fldG cs i (.ref n) h = (match h[n]? with
    | some (.ins c fs) => if c ∈ cs then fs[i]? else none
    | _ => none) := rfl
@[simp] theorem sPar3_eq : sPar3 i j k xs τ h = sE xs (fun ds τ h => match ds with
  | [x, y, z] => .next (((τ.s.set i (some x)).set j (some y)).set k (some z)) h
  | _ => .stuck) τ h := rfl
@[simp] theorem sPar_eq : sPar i j xs τ h = sE xs (fun ds τ h => match ds with
  | [x, y] => .next ((τ.s.set i (some x)).set j (some y)) h
  | _ => .stuck) τ h := rfl
@[simp] theorem sAtt_eq' : sAtt cs i o x τ h = sE x (fun v τ h => sE o (fun d τ h => match fAtt cs i τ.b d v h with
  | some h1 => .next τ.s h1
  | none => .stuck) τ h) τ h := rfl
@[simp] theorem fAtt_ref : fAtt cs i b (.ref n) d h = (match h[n]? with
    | some (.ins c fs) => if c ∈ cs ∧ fs.length < 1000 then (match attD i d fs with
      | some fs' => putO h b n (.ins c fs')
      | none => none) else none
    | _ => none) := by
  unfold fAtt
  rfl
@[simp] theorem fzr_lst : fzr b (.lst ds) h = .ok (.lst ds) h := rfl
@[simp] theorem tlTold_ok {c1 c2 : Nat} {r1 r2 : Str} {r : R} : tlTold c1 r1 c2 r2 (.ok r h) = .ok r h := rfl
@[simp] theorem tlTold_exc {c1 c2 : Nat} {r1 r2 : Str} : tlTold c1 r1 c2 r2 (.exc k h) = if k = c1 then .ok (.v (.str r1)) h else if k = c2 then .ok (.v (.str r2)) h else .stuck := rfl
@[simp] theorem tlCode_ok {b1 b2 : Bool} {r : R} : tlCode c b1 b2 (.ok r h) = .ok (.v (.bl b2)) h := rfl
@[simp] theorem tlCode_exc {b1 b2 : Bool} : tlCode c b1 b2 (.exc k h) = if k = c then .ok (.v (.bl b1)) h else .stuck := rfl
@[simp] theorem asK_str {s : Str} : asK (.str s) = some (Sum.inr s) := rfl
end
theorem isTb_of {h : Own} {j : Nat} (e : h[j]? = some (.tb j)) : isTb h j = true := by
  unfold isTb
  rw [e]
  simp
/-! ### calls -/
theorem callE_ret {G : BD} {as : List D} {h : Own} {P : R → Own → Prop} (e : W (G 0 as h) fun r => ∃ x h1, r = .ret x h1 ∧ P x h1) : ∃ x h1, callE 0 G as h = .ok x h1 ∧ P x h1 := by
  obtain ⟨x, h1, e, p⟩ := e
  refine ⟨x, h1, ?_, p⟩
  unfold callE
  rw [if_pos rfl, e]
theorem callE_next {G : BD} {as : List D} {h : Own} {P : Own → Prop} (e : W (G 0 as h) fun r => ∃ s h1, r = .next s h1 ∧ P h1) : ∃ h1, callE 0 G as h = .ok (.v .non) h1 ∧ P h1 := by
  obtain ⟨s, h1, e, p⟩ := e
  refine ⟨h1, ?_, p⟩
  unfold callE
  rw [if_pos rfl, e]
theorem callE_exc {G : BD} {as : List D} {h : Own} {c : Nat} {s : Sl} {h1 : Own} (e : G 0 as h = .exc c s h1) : callE 0 G as h = .exc c h1 := by
  unfold callE
  rw [if_pos rfl, e]
theorem call_next {G : BD} {as : List D} {h : Own} {P : Own → Prop} (e : W (G h.length as h) fun r => ∃ s h1, r = .next s h1 ∧ P h1) : ∃ h1, P h1 ∧ callB G as h = .ok (.v .non) (h1.take h.length) := by
  obtain ⟨s, h1, e, p⟩ := e
  refine ⟨h1, p, ?_⟩
  unfold callB
  rw [e]
  rfl
theorem call_exc {G : BD} {as : List D} {h : Own} {c : Nat} {s : Sl} {h1 : Own} (e : G h.length as h = .exc c s h1) : callB G as h = .exc c (h1.take h.length) := by
  unfold callB
  rw [e]
/-! ### dicts by texts -/
theorem fIx_key {H : Own} {m : Nat} {kvs : List (Key × D)} {s : Str} {v : D} (e : H[m]? = some (.dK kvs)) (g : getD kvs (Sum.inr s : Key) = some v) : fIx (.ref m) (.str s) H = .ok (.v v) H := by
  have h1 : fIxQ (.ref m) (.str s) H = .stuck := by
    unfold fIxQ asQ asL
    simp [e]
  have h2 : fIxS (.ref m) (.str s) H = .stuck := rfl
  have h3 : fIxD (.ref m) (.str s) H = .ok (.v v) H := by
    unfold fIxD askD asD
    simp [e, g]
  show (match fIxQ (.ref m) (.str s) H with | .stuck => _ | z => z) = _
  rw [h1]
  dsimp only
  show (match fIxS (.ref m) (.str s) H with | .stuck => fIxD (.ref m) (.str s) H | z => z) = _
  rw [h2]
  exact h3
theorem fPut_key {H : Own} {b m : Nat} {kvs : List (Key × D)} {s : Str} {v : D} (e : H[m]? = some (.dK kvs)) (hl : kvs.length ≤ 1000) (hp : b ≤ m ∨ subR (.dK (putD kvs (Sum.inr s : Key) v)) (.dK kvs) = true) :
    fPut b (.ref m) (.str s) v H = some (H.set m (.dK (putD kvs (Sum.inr s : Key) v))) := by
  unfold fPut
  simp only [e, asK_str]
  rw [if_pos (szl (by omega))]
  rcases hp with z | z
  · exact putO_own z
  · exact putO_sub e z
/-- a list's item, by a number that counts from behind -/
theorem fIx_last {H : Own} {d x : D} {xs : List D} (e : asQ H d = some (xs ++ [x])) : fIx d (.int (-1)) H = .ok (.v x) H := by
  show (match fIxQ d (.int (-1)) H with | .stuck => _ | z => z) = _
  have : atI (xs ++ [x]) (-1) = some x := by
    unfold atI ixN
    simp
    have : (-1 + ((xs.length : Int) + 1)).toNat = xs.length := by omega
    rw [this, if_pos (by omega), Option.bind_some, List.getElem?_append_right (Nat.le_refl _), Nat.sub_self]
    rfl
  unfold fIxQ
  rw [e]
  simp [this]
end Z
set_option Elab.async false
set_option linter.all false
set_option maxRecDepth 100000
/-! Z35: dicts whose keys are tuples of any depth. -/
namespace Z
open PySem PySem.Spec L2
section
variable {ca : Cn} {μ : List Addr} {F H : Hp}
mutual
theorem VR.nk (hs : Same F H) : ∀ {v : V} {d : D} {k : NestedKey}, VR ca μ F v d → Z.nk d = some k → NK H k v
  | _, _, _, .non, e => by cases e; exact .non
  | _, _, _, .bl b, e => by cases e; exact .bl b
  | _, _, _, .int i, e => by cases e; exact .int i
  | _, _, _, .str s, e => by cases e; exact .str s
  | _, _, _, .tup (ds := ds) q r, e => by
    rw [Z.nk] at e
    cases h : nks ds with
    | none => rw [h] at e; cases e
    | some ks =>
      rw [h] at e
      cases e
      exact .tup (hs _ _ q) (VRs.nk hs r h)
  | _, _, _, .lst _ _, e => by rw [Z.nk] at e; cases e
  | _, _, _, .dK _ _ _, e => by rw [Z.nk] at e; cases e
  | _, _, _, .dT _ _ _, e => by rw [Z.nk] at e; cases e
  | _, _, _, .obj _ _ _, e => by rw [Z.nk] at e; cases e
  | _, _, _, .ro _, e => by rw [Z.nk] at e; cases e
  | _, _, _, .ref _, e => by rw [Z.nk] at e; cases e
theorem VRs.nk (hs : Same F H) : ∀ {vs : List V} {ds : List D} {ks : List NestedKey}, VRs ca μ F vs ds → nks ds = some ks → NKs H ks vs
  | _, _, _, .nil, e => by cases e; exact .nil
  | _, _, _, .cons (d := d) (ds := ds) h t, e => by
    rw [nks] at e
    cases h1 : Z.nk d with
    | none => rw [h1] at e; cases e
    | some k =>
      cases h2 : nks ds with
      | none => rw [h1, h2] at e; cases e
      | some ks =>
        rw [h1, h2] at e
        cases e
        exact .cons (VR.nk hs h h1) (VRs.nk hs t h2)
end
def getN (kds : List (D × D)) (k : NestedKey) : Option D := (kds.find? fun p => decide (Z.nk p.1 = some k)).map (·.2)
def putN (kds : List (D × D)) (k : NestedKey) (d v : D) : List (D × D) := if (getN kds k).isSome then kds.map (fun p => if Z.nk p.1 = some k then (p.1, v) else p) else kds ++ [(d, v)]
/-- how the HO's list and the own list go together -/
structure NR (ca : Cn) (μ : List Addr) (F : Hp) (xs : List NX) (kds : List (D × D)) : Prop where
  k : xs.map (fun x => some x.1) = kds.map fun p => Z.nk p.1
  d : ∀ x ∈ xs, x.1.depth ≤ 8
  a : VRs ca μ F (xs.map fun x => V.ref x.2.1) (kds.map (·.1))
  v : VRs ca μ F (xs.map fun x => x.2.2) (kds.map (·.2))
theorem NR.tail {x : NX} {p : D × D} {xs : List NX} {kds : List (D × D)} (r : NR ca μ F (x :: xs) (p :: kds)) : some x.1 = Z.nk p.1 ∧ VR ca μ F (.ref x.2.1) p.1 ∧ VR ca μ F x.2.2 p.2 ∧ NR ca μ F xs kds := by
  obtain ⟨k, d, a, v⟩ := r
  simp only [List.map_cons] at k a v
  have k' := List.cons.inj k
  cases a with
  | cons a1 a2 =>
    cases v with
    | cons v1 v2 => exact ⟨k'.1, a1, v1, ⟨k'.2, fun y hy => d y (List.mem_cons_of_mem _ hy), a2, v2⟩⟩
theorem NR.len {xs : List NX} {kds : List (D × D)} (r : NR ca μ F xs kds) : xs.length = kds.length := by
  have := congrArg List.length r.k
  simpa using this
theorem NR.key (hs : Same F H) : ∀ {xs : List NX} {kds : List (D × D)}, NR ca μ F xs kds → NKey H xs
  | [], _, _ => fun x hx => by cases hx
  | x :: xs, [], r => by have := r.len; simp at this
  | x :: xs, p :: kds, r => by
    obtain ⟨k, a, v, t⟩ := r.tail
    intro y hy
    rcases List.mem_cons.mp hy with rfl | hy
    · exact ⟨a.nk hs k.symm, r.d _ (List.mem_cons_self ..)⟩
    · exact NR.key hs t y hy
theorem NR.get (k : NestedKey) : ∀ {xs : List NX} {kds : List (D × D)}, NR ca μ F xs kds → (getN kds k = none ∧ nval xs k = none) ∨ ∃ v d, getN kds k = some d ∧ nval xs k = some v ∧ VR ca μ F v d
  | [], [], _ => .inl ⟨rfl, rfl⟩
  | [], _ :: _, r => by have := r.len; simp at this
  | _ :: _, [], r => by have := r.len; simp at this
  | x :: xs, p :: kds, r => by
    obtain ⟨e, a, v, t⟩ := r.tail
    have ih := NR.get k t
    unfold getN nval at ih ⊢
    rw [List.find?_cons, List.find?_cons]
    by_cases z : x.1 = k
    · have z' : Z.nk p.1 = some k := by rw [← e, z]
      simp only [z, z', decide_true]
      exact .inr ⟨_, _, rfl, rfl, v⟩
    · have z' : ¬ Z.nk p.1 = some k := by rw [← e]; exact fun y => z (Option.some.inj y)
      simp only [z, z', decide_false]
      exact ih
theorem NR.set {k : NestedKey} {v : V} {d : D} (rv : VR ca μ F v d) : ∀ {xs : List NX} {kds : List (D × D)}, NR ca μ F xs kds → NR ca μ F (xs.map fun x => if x.1 = k then (x.1, x.2.1, v) else x) (kds.map fun p => if Z.nk p.1 = some k then (p.1, d) else p)
  | [], [], r => r
  | [], _ :: _, r => by have := r.len; simp at this
  | _ :: _, [], r => by have := r.len; simp at this
  | x :: xs, p :: kds, r => by
    obtain ⟨e, a, w, t⟩ := r.tail
    obtain ⟨i1, i2, i3, i4⟩ := NR.set rv t
    have hd := r.d x (List.mem_cons_self ..)
    by_cases z : x.1 = k
    · have z' : Z.nk p.1 = some k := by rw [← e, z]
      simp only [List.map_cons, if_pos z, if_pos z']
      refine ⟨by simp only [List.map_cons]; rw [i1, e], fun y hy => ?_, .cons a i3, .cons rv i4⟩
      rcases List.mem_cons.mp hy with rfl | hy
      · exact hd
      · exact i2 y hy
    · have z' : ¬ Z.nk p.1 = some k := by rw [← e]; exact fun y => z (Option.some.inj y)
      simp only [List.map_cons, if_neg z, if_neg z']
      refine ⟨by simp only [List.map_cons]; rw [i1, e], fun y hy => ?_, .cons a i3, .cons w i4⟩
      rcases List.mem_cons.mp hy with rfl | hy
      · exact hd
      · exact i2 y hy
theorem NR.put {k : NestedKey} {b : Addr} {v : V} {kd d : D} {xs : List NX} {kds : List (D × D)} (r : NR ca μ F xs kds) (hk : Z.nk kd = some k) (h8 : k.depth ≤ 8) (rb : VR ca μ F (.ref b) kd) (rv : VR ca μ F v d) : NR ca μ F (nput xs k b v) (putN kds k kd d) := by
  unfold nput putN
  rcases r.get k with ⟨e1, e2⟩ | ⟨w, e, e1, e2, _⟩
  · rw [e1, e2]
    obtain ⟨i1, i2, i3, i4⟩ := r
    refine ⟨?_, fun y hy => ?_, ?_, ?_⟩
    · show (xs ++ [(k, b, v)]).map _ = (kds ++ [(kd, d)]).map _
      rw [List.map_append, List.map_append, i1]
      simp [hk]
    · rcases List.mem_append.mp hy with z | z
      · exact i2 y z
      · rw [List.mem_singleton.mp z]; exact h8
    · show VRs ca μ F ((xs ++ [(k, b, v)]).map _) ((kds ++ [(kd, d)]).map _)
      rw [List.map_append, List.map_append]
      exact i3.append (.cons rb .nil)
    · show VRs ca μ F ((xs ++ [(k, b, v)]).map _) ((kds ++ [(kd, d)]).map _)
      rw [List.map_append, List.map_append]
      exact i4.append (.cons rv .nil)
  · rw [e1, e2]
    exact r.set rv
end
end Z
set_option Elab.async false
set_option linter.all false
set_option maxRecDepth 100000
/-! Z36: d[k], k in d, d[k] = v where the keys are tuples of any depth. -/
namespace Z
open PySem PySem.Spec L2
def asN (h : Own) : D → Option (List (D × D))
  | .ref n => match h[n]? with
    | some (.dN kds) => some kds
    | _ => none
  | _ => none
def keyN : D → Option NestedKey
  | .tup ds => match nk (.tup ds) with
    | some k => if k.depth ≤ 8 then some k else none
    | none => none
  | _ => none
section
variable {ca : Cn} {X : Cx} {W : WF} {pos : Pos} {e a b c : Expr}
theorem asN_ok {μ : List Addr} {F H : Hp} {h : Own} {v : V} {d : D} {kds : List (D × D)} (R : RelH ca μ F h H) (V1 : VR ca μ F v d) (e : asN h d = some kds) : ∃ n a xs, d = .ref n ∧ μ[n]? = some a ∧ h[n]? = some (.dN kds) ∧ v = .ref a ∧ H a = some (NDict ca.prog ca.w a xs) ∧ NR ca μ F xs kds := by
  cases V1 with
  | ref q =>
    rename_i a n
    unfold asN at e
    dsimp only at e
    split at e
    · rename_i ds q2
      cases e
      obtain ⟨xs, w1, w2, w3, w4, w5⟩ := R.ob n _ _ q q2
      exact ⟨n, a, xs, rfl, q, q2, rfl, w1, ⟨w2, w3, w4, w5⟩⟩
    · cases e
  | _ => cases e
theorem keyN_ok {μ : List Addr} {F H : Hp} (hF : Same F H) {v : V} {d : D} {k : NestedKey} (r : VR ca μ F v d) (e : keyN d = some k) : ∃ b, v = .ref b ∧ NK H k (.ref b) ∧ k.depth ≤ 8 ∧ nk d = some k := by
  cases r with
  | tup q r1 =>
    unfold keyN at e
    dsimp only at e
    split at e
    · rename_i k' h1
      split at e
      · rename_i h8
        cases e
        exact ⟨_, rfl, VR.nk hF (.tup q r1) h1, h8, h1⟩
      · cases e
    · cases e
  | _ => cases e
/-! d[k] -/
def fIxN : F2 := fun x y h => match asN h x, keyN y with
  | some kds, some k => match getN kds k with
    | some d => .ok (.v d) h
    | none => .stuck
  | _, _ => .stuck
def rIxN (P : Program) (w : World) : R2 := fun x y H Q => ∃ a b xs k v, x = .ref a ∧ y = .ref b ∧ H a = some (NDict P w a xs) ∧ NKey H xs ∧ NK H k (.ref b) ∧ k.depth ≤ 8 ∧ nval xs k = some v ∧ Q v H
open PyProof.Rows in
theorem ix_nest (hu : X.A.units + 9 < cLine) : IxR X (rIxN X.prog X.w) := by
  intro value slice pins s σ H x y v u Q I rx ry ⟨a, b, xs, k, z, e1, e2, ea, ks, kb, k8, g, q⟩ hs
  subst e1 e2
  obtain rfl : v = Value.ref a := rx
  obtain rfl : u = Value.ref b := ry
  obtain ⟨_, _, ys, _, dd⟩ := nd_of I.hok ea ks
  have hT := dd.typeIs
  unfold subscriptTail
  refine wpAny_bind ?_
  rw [getitemInPython_of_ne hT.not_modules]
  refine wpAny_bind (wpAny_specialOf hT PySem.F.slot_dict_getitem.lookup ?_)
  have h₂ : wpAny (model X.prog X.w) X.A (getItem (.ref a) (.ref b)) (EP X pins σ Q) X.xe s := n_getItem hu I ea ks kb k8 g fun w' s' I' rw' => ⟨z, H, I', rw', q⟩
  have fin : wpAny (model X.prog X.w) X.A (subscripted slice false (.ref a) (.ref b)) (fun r s₃ => wpAny (model X.prog X.w) X.A (letTemporaryGo value (.ref a) r >>= fun _ => pure r) (EP X pins σ Q) X.xe s₃) X.xe s := by
    rw [hs]
    exact wpAny_operating (wpAny_mono h₂ (fun r s₃ h₃ => wpAny_bind (wpAny_letTemporaryGo (wpAny_pure h₃))) fun _ _ x => x)
  first
    | exact wpAny_pure (wpAny_bind fin)
    | exact wpAny_bind (wpAny_pure (wpAny_bind fin))
    | exact wpAny_bind fin
theorem lk_ixN : Lk2 ca fIxN (rIxN ca.prog ca.w) := by
  intro b μ F H h Wx x y c d Q R V1 V2 _ p
  unfold fIxN at p
  cases e1 : asN h c with
  | none => simp only [e1] at p; exact p.elim
  | some kds =>
    cases e2 : keyN d with
    | none => simp only [e1, e2] at p; exact p.elim
    | some k =>
      simp only [e1, e2] at p
      obtain ⟨n, a, xs, _, _, _, rfl, ea, nr⟩ := asN_ok R V1 e1
      obtain ⟨b', rfl, kb, k8, _⟩ := keyN_ok R.fz V2 e2
      rcases nr.get k with ⟨g1, g2⟩ | ⟨v, w, g1, g2, g3⟩
      · rw [g1] at p; exact p.elim
      · rw [g1] at p
        exact ⟨a, b', xs, k, v, rfl, rfl, ea, nr.key R.fz, kb, k8, g2, p.ok R _ g3⟩
def fIxA : F2 := orF fIx fIxN
theorem se_ixA {ta tb : ED} (hP : ca.prog = X.prog) (hw : ca.w = X.w) (hu : X.A.units + 9 < cLine) (ha : SD ca X W a ta) (hb : SD ca X W b tb) (hs : PlainIx b) : SE ca X W (.Subscript a b pos) (e2 fIxA ta tb) :=
  PE.imp (pe_ix ((ix_any (by omega)).or (ix_nest hu)) ha hb hs) (lk_op (lk_ix.or (by rw [← hP, ← hw]; exact lk_ixN)))
/-! k in d -/
def fInN (neg : Bool) : F2 := fun x y h => match asN h y, keyN x with
  | some kds, some k => .ok (.v (.bl (if neg then !(getN kds k).isSome else (getN kds k).isSome))) h
  | _, _ => .stuck
def rInN (P : Program) (w : World) (neg : Bool) : R2 := fun y x H Q => ∃ a b xs k, x = .ref a ∧ y = .ref b ∧ H a = some (NDict P w a xs) ∧ NKey H xs ∧ NK H k (.ref b) ∧ k.depth ≤ 8 ∧ Q (.bl (if neg then !(nval xs k).isSome else (nval xs k).isSome)) H
theorem op_inN (hu : X.A.units + 9 < cLine) : OpR X (compareOp .In) (rInN X.prog X.w false) := by
  intro pins s σ H x y v u Q I rx ry ⟨a, b, xs, k, e1, e2, ea, ks, kb, k8, q⟩
  subst e1 e2
  obtain rfl : u = Value.ref a := ry
  obtain rfl : v = Value.ref b := rx
  exact n_in hu I ea ks kb k8 fun s' I' => ⟨.bl (nval xs k).isSome, H, I', rfl, q⟩
theorem op_notInN (hu : X.A.units + 9 < cLine) : OpR X (compareOp .NotIn) (rInN X.prog X.w true) := by
  intro pins s σ H x y v u Q I rx ry ⟨a, b, xs, k, e1, e2, ea, ks, kb, k8, q⟩
  subst e1 e2
  obtain rfl : u = Value.ref a := ry
  obtain rfl : v = Value.ref b := rx
  exact n_notIn hu I ea ks kb k8 fun s' I' => ⟨.bl (!(nval xs k).isSome), H, I', rfl, q⟩
theorem lk_inN (neg : Bool) : Lk2 ca (fInN neg) (rInN ca.prog ca.w neg) := by
  intro b μ F H h Wx x y c d Q R V1 V2 _ p
  unfold fInN at p
  cases e1 : asN h d with
  | none => simp only [e1] at p; exact p.elim
  | some kds =>
    cases e2 : keyN c with
    | none => simp only [e1, e2] at p; exact p.elim
    | some k =>
      simp only [e1, e2] at p
      obtain ⟨n, a, xs, _, _, _, rfl, ea, nr⟩ := asN_ok R V2 e1
      obtain ⟨b', rfl, kb, k8, _⟩ := keyN_ok R.fz V1 e2
      refine ⟨a, b', xs, k, rfl, rfl, ea, nr.key R.fz, kb, k8, ?_⟩
      have : (nval xs k).isSome = (getN kds k).isSome := by
        rcases nr.get k with ⟨g1, g2⟩ | ⟨v, w, g1, g2, g3⟩ <;> rw [g1, g2] <;> rfl
      rw [this]
      exact p.ok R _ (.bl _)
def fInA : F2 := orF fIn (fInN false)
def fNotInA : F2 := orF fNotIn (fInN true)
theorem op_inA (hu : X.A.units + 65 < cLine) : OpR X (compareOp .In) (fun x y H Q => (rIn X.K false x y H Q ∨ rInK false x y H Q ∨ rInD X.K x y H Q) ∨ rInN X.prog X.w false x y H Q) := (op_in hu).or (op_inN (by omega))
theorem op_notInA (hu : X.A.units + 65 < cLine) : OpR X (compareOp .NotIn) (fun x y H Q => (rIn X.K true x y H Q ∨ rInK true x y H Q ∨ rNotInD X.K x y H Q) ∨ rInN X.prog X.w true x y H Q) := (op_notIn hu).or (op_notInN (by omega))
theorem lk_inA {K : PySem.W.Frag} {P : Program} {w : World} (hP : ca.prog = P) (hw : ca.w = w) : Lk2 ca fInA (fun x y H Q => (rIn K false x y H Q ∨ rInK false x y H Q ∨ rInD K x y H Q) ∨ rInN P w false x y H Q) := by
  subst hP hw; exact lk_in.or (lk_inN false)
theorem lk_notInA {K : PySem.W.Frag} {P : Program} {w : World} (hP : ca.prog = P) (hw : ca.w = w) : Lk2 ca fNotInA (fun x y H Q => (rIn K true x y H Q ∨ rInK true x y H Q ∨ rNotInD K x y H Q) ∨ rInN P w true x y H Q) := by
  subst hP hw; exact lk_notIn.or (lk_inN true)
/-! d[k] = v -/
def fPutN (b : Nat) (o i v : D) (h : Own) : Option Own := match o, asN h o, keyN i with
  | .ref n, some kds, some k => if kds.length < sizeLine then putO h b n (.dN (putN kds k i v)) else none
  | _, _, _ => none
def rSetN (P : Program) (w : World) : TSet := fun o i v H Q => ∃ a b xs k, o = .ref a ∧ i = .ref b ∧ H a = some (NDict P w a xs) ∧ NKey H xs ∧ NK H k (.ref b) ∧ k.depth ≤ 8 ∧ xs.length < sizeLine ∧ Q (upd H a (NDict P w a (nput xs k b v)))
theorem set_nest (hu : X.A.units + 9 < cLine) : PSet X (rSetN X.prog X.w) := by
  intro pins s σ H o i v ov iv u Q I ro ri rv ⟨a, b, xs, k, e1, e2, ea, ks, kb, k8, hl, q⟩
  subst e1 e2
  obtain rfl : ov = Value.ref a := ro
  obtain rfl : iv = Value.ref b := ri
  exact n_setItem hu I ea ks kb k8 hl rv fun s' I' => ⟨_, I', q⟩
end
end Z
set_option Elab.async false
set_option linter.all false
set_option maxRecDepth 100000
set_option maxHeartbeats 1000000
/-! Z37: d[k] = v, {} for such dicts. -/
namespace Z
open PySem PySem.Spec L2
section
variable {ca : Cn} {X : Cx} {W : WF} {pos : Pos} {e a b c : Expr}
theorem fPutN_ok {μ : List Addr} {F H : Hp} {h h1 : Own} {b : Nat} {vo vi vv : V} {o i v : D} {Q : Hp → Prop} (R : RelH ca μ F h H) (Vo : VR ca μ F vo o) (Vi : VR ca μ F vi i) (Vv : VR ca μ F vv v) (e : fPutN b o i v h = some h1)
    (q : ∀ H1, RelH ca μ F h1 H1 → Ext b μ F H h μ F H1 h1 → Q H1) : rSetN ca.prog ca.w vo vi vv H Q := by
  unfold fPutN at e
  split at e
  · rename_i n kds k e2 e1
    obtain ⟨n', a, xs, en, em, e0, rfl, ea, nr⟩ := asN_ok R Vo e1
    cases en
    obtain ⟨b', rfl, kb, k8, hk⟩ := keyN_ok R.fz Vi e2
    by_cases hl : kds.length < sizeLine
    · rw [if_pos hl] at e
      have nr2 := nr.put hk k8 Vi Vv
      obtain ⟨R2, E2⟩ := put_ok R em e0 rfl e (u := NDict ca.prog ca.w a (nput xs k b' vv)) fun H' q => ⟨_, q, nr2.k, nr2.d, nr2.a, nr2.v⟩
      exact ⟨a, b', xs, k, rfl, rfl, ea, nr.key R.fz, kb, k8, by rw [nr.len]; exact hl, q _ R2 E2⟩
    · rw [if_neg hl] at e; cases e
  · cases e
def fPutA (b : Nat) (o i v : D) (h : Own) : Option Own := match fPut b o i v h with
  | some h1 => some h1
  | none => fPutN b o i v h
def sPutA (o i x : ED) : ST := sE x fun v τ h => sE o (fun d τ h => sE i (fun k τ h => match fPutA τ.b d k v h with
  | some h1 => .next τ.s h1
  | none => .stuck) τ h) τ h
theorem ss_putA {o i : Expr} {pos' : Pos} {xo xi x : ED} (hP : ca.prog = X.prog) (hw' : ca.w = X.w) (hu : X.A.units + 9 < cLine) (ho : SD ca X W o xo) (hi : SD ca X W i xi) (hx : SD ca X W e x)
    (ha : ∀ v, assign (.Subscript o i pos') X.env v = (do
      let ov ← holding [v] (eval o X.env)
      let iv ← holding [v, ov] (eval i X.env)
      standAt pos'
      holding [v, ov, iv] (setItem ov iv v)
      release [v, ov, iv] [])) (hs : swapsWithSole [.Subscript o i pos'] e pos.line X.env = pure false) (hw : swappedStores [.Subscript o i pos'] e X.env = pure none)
    (h1 : (assignEach [.Subscript o i pos'] X.env).map (·.2) = [assign (.Subscript o i pos') X.env]) : SS ca X W (.Assign [.Subscript o i pos'] e pos) (sPutA xo xi x) :=
  PS.imp (ps_asg hx (pg_sub ho hi (PSet.or (set_any (by omega)) (set_nest hu)) ha) hs hw h1) fun D σ H ⟨μ, F, τ, h, A, p⟩ => ⟨μ, F, τ, h, A, (sE_post A p).imp fun v μ1 F1 H1 h1 E1 R1 q vv Vv => by
    have A1 := A.ext E1 R1
    refine ⟨μ1, F1, τ, h1, A1, (sE_post A1 q).imp fun d μ2 F2 H2 h2 E2 R2 q2 vo Vo => ?_⟩
    have A2 := A1.ext E2 R2
    refine ⟨μ2, F2, τ, h2, A2, (sE_post A2 q2).imp fun k μ3 F3 H3 h3 E3 R3 q3 vi Vi => ?_⟩
    have A3 := A2.ext E3 R3
    unfold fPutA at q3
    cases ep : fPut τ.b d k v h3 with
    | some h4 =>
      rw [ep] at q3
      exact .inl (fPut_ok R3 (E3.vr Vo) Vi (E3.vr (E2.vr Vv)) ep fun H4 R4 E4 => q3 μ3 F3 H4 σ E4 R4 (E4.sr A3.sl))
    | none =>
      rw [ep] at q3
      cases en : fPutN τ.b d k v h3 with
      | none => rw [en] at q3; exact q3.elim
      | some h4 =>
        rw [en] at q3
        refine .inr ?_
        rw [← hP, ← hw']
        exact fPutN_ok R3 (E3.vr Vo) Vi (E3.vr (E2.vr Vv)) en fun H4 R4 E4 => q3 μ3 F3 H4 σ E4 R4 (E4.sr A3.sl)⟩
/-! {} -/
def eNewN : EX := fun _ h => .ok (.n (.dN [])) h
theorem se_newN (hP : ca.prog = X.prog) (hw : ca.w = X.w) : SE ca X W (.Dict [] [] pos) eNewN := PE.imp pe_dnewN fun σ H Q ⟨μ, F, τ, h, A, p⟩ l hl => by
  obtain ⟨e, R1, w⟩ := neNew (b := τ.b) A.rel hl (NDict X.prog X.w l []) (o := .dN []) fun H' q => ⟨[], by rw [hP, hw]; exact q, rfl, fun x hx => (by cases hx), .nil, .nil⟩
  exact p μ F _ e R1 _ w
end
end Z
set_option Elab.async false
set_option linter.all false
set_option maxRecDepth 100000
set_option maxHeartbeats 1000000
/-! Z38: {k: v} with a nested key. -/
namespace Z
open PySem PySem.Spec L2
theorem nroom0 {P : Program} {w : World} {A : Around} (hu : A.units + 9 < cLine) : (nestedKind P w).room A := by
  unfold nestedKind
  show A.units + 8 < cLine
  omega
theorem n_dictSet {X : Cx} {pins : List (Addr × Obj)} {σ : St} {H : Hp} {s : Shared} {E : Value → Shared → Prop} {p b : Addr} {k : NestedKey} {v : V} {r : Value} {Q : Unit → Shared → Prop} (hu : X.A.units + 9 < cLine) (I : Inv X pins σ H s) (hp : H p = some (NDict X.prog X.w p []))
    (kb : NK H k (.ref b)) (kd : k.depth ≤ 8) (rv : RelV v r) (h : ∀ s', Inv X pins σ (upd H p (NDict X.prog X.w p [(k, b, v)])) s' → Q () s') : wpAny (model X.prog X.w) X.A (dictSet p (.ref b) r) Q E s := by
  obtain ⟨z, hd, ys, rel, dd⟩ := nd_of I.hok hp (fun x hx => by cases hx)
  have hzv : ys.length ≤ sizeLine := by rw [← Paired.length rel]; exact z
  refine wpAny_dictSet_heap (knd := nestedKind X.prog X.w) (hsz := hzv) (nroom0 hu) ⟨kb.is I.hok rfl, kd⟩ dd fun h' dd' hs => h _ ?_
  have he : ∃ q, h'.get? p = some q := let ⟨q, _, _, hq, _⟩ := dd'; ⟨q, hq⟩
  have np : Paired NRel (nput [] k b v) (storedH ys k b r) := nrel_put rel rv
  exact d_write I (by rw [hp]; exact True.intro) hs he (nd_ok (by show 1 ≤ sizeLine; decide) hd np dd')
def tDispN (P : Program) (w : World) (tk tv : TE) : TE := fun σ H Q => ∀ p, H p = none → tk σ (upd H p (NDict P w p [])) fun x H1 => tv σ H1 fun y H2 => ∃ b k, x = .ref b ∧ NK H2 k (.ref b) ∧ k.depth ≤ 8 ∧ H2 p = some (NDict P w p []) ∧ Q (.ref p) (upd H2 p (NDict P w p [(k, b, y)]))
theorem pe_dispN {X : Cx} {pos : Pos} {k v : Expr} {tk tv : TE} (hu : X.A.units + 9 < cLine) (hk : PE X k tk) (hv : PE X v tv) : PE X (.Dict [some k] [v] pos) (tDispN X.prog X.w tk tv) := by
  refine ⟨fun pins s σ H Q I q => ?_⟩
  have hn := I.hok.fresh (Nat.le_refl s.heap.objs.size)
  have I1 := I.laid (a := s.heap.objs.size) (o := NDict X.prog X.w s.heap.objs.size []) (h' := s.heap.push { cls := .type "dict", data := .dict #[] }) (t' := s.toks) (fun _ _ q => Heap.get?_push_of_some _ q) (Nat.le_refl _) (nd_empty s.heap I.big)
  have P1 : PPs X pos [some k] [v] [(tk, tv)] := pps_cons hk hv pps_nil
  refine wpAny_Dict_any rfl rfl (by simp) (show 1 ≤ 15 by decide) (thn (P1.run pins _ σ _ (fun ps H2 => match ps with
    | [(x, y)] => ∃ b k, x = .ref b ∧ NK H2 k (.ref b) ∧ k.depth ≤ 8 ∧ H2 s.heap.objs.size = some (NDict X.prog X.w s.heap.objs.size []) ∧ Q (.ref s.heap.objs.size) (upd H2 s.heap.objs.size (NDict X.prog X.w s.heap.objs.size [(k, b, y)]))
    | _ => False) I1 (q _ hn)) fun ws s2 ⟨ps, H2, I2, rel, q1⟩ => ?_)
  match ps, rel, q1 with
  | [(x, y)], rel, ⟨b, k, ex, kb, k8, hp, q2⟩ =>
    obtain ⟨u, r, rfl, ru, rr⟩ : ∃ u r, ws = [(u, r)] ∧ RelV x u ∧ RelV y r := by
      cases rel with
      | cons h t => cases t; exact ⟨_, _, rfl, h.1, h.2⟩
    subst ex
    cases ru
    show wpAny _ _ (forIn [(Value.ref b, r)] PUnit.unit _) _ _ _
    rw [List.forIn_cons]
    refine wpAny_bind (wpAny_bind (n_dictSet hu I2 hp kb k8 rr fun s3 I3 => wpAny_pure ?_))
    dsimp only
    rw [List.forIn_nil]
    exact wpAny_pure ⟨.ref _, _, I3, rfl, q2⟩
section
variable {ca : Cn} {X : Cx} {W : WF} {pos : Pos} {e a b c : Expr}
def eDispN (k v : ED) : EX := fun τ h => (k τ h).bind fun x h1 => (v τ h1).bind fun y h2 => match keyN x with
  | some _ => .ok (.n (.dN [(x, y)])) h2
  | none => .stuck
theorem se_dispN {k v : Expr} {xk xv : ED} (hP : ca.prog = X.prog) (hw : ca.w = X.w) (hu : X.A.units + 9 < cLine) (hk : SD ca X W k xk) (hv : SD ca X W v xv) : SE ca X W (.Dict [some k] [v] pos) (eDispN xk xv) := PE.imp (pe_dispN hu hk hv) fun σ H Q ⟨μ, F, τ, h, A, p⟩ l hl => by
  have hF : F l = none := by
    cases q : F l with
    | none => rfl
    | some w => exact absurd (A.rel.fz _ _ q) (by rw [hl]; exact fun z => nomatch z)
  have hm : l ∉ μ := fun z => A.rel.dom l z hl
  have A1 : At ca μ F τ h σ (upd H l (NDict X.prog X.w l [])) := ⟨A.rel.upd hl, A.sl, A.bl⟩
  have E0 : Ext τ.b μ F H h μ F (upd H l (NDict X.prog X.w l [])) h := Ext.refl.upd hl
  unfold eDispN at p
  refine ⟨μ, F, τ, h, A1, ?_⟩
  cases hx : xk τ h with
  | stuck => rw [hx] at p; exact p.elim
  | exc c h1 => rw [hx] at p; exact fun μ1 F1 H1 E1 R1 => p μ1 F1 H1 (E0.trans E1) R1
  | ok x h1 =>
    rw [hx] at p
    intro μ1 F1 H1 E1 R1 vx Vx
    have A2 := A1.ext E1 R1
    refine ⟨μ1, F1, τ, h1, A2, ?_⟩
    dsimp only [Res.bind] at p
    cases hy : xv τ h1 with
    | stuck => rw [hy] at p; exact p.elim
    | exc c h2 => rw [hy] at p; exact fun μ2 F2 H2 E2 R2 => p μ2 F2 H2 (E0.trans (E1.trans E2)) R2
    | ok y h2 =>
      rw [hy] at p
      intro μ2 F2 H2 E2 R2 vy Vy
      have E12 := E1.trans E2
      dsimp only at p
      cases ek : keyN x with
      | none => rw [ek] at p; exact p.elim
      | some kk =>
        rw [ek] at p
        have Vx2 := E2.vr Vx
        obtain ⟨b, eb, kb, k8, hk⟩ := keyN_ok R2.fz Vx2 ek
        have hlD : H2 l = some (NDict X.prog X.w l []) := E12.frame l _ upd_same hm
        have hm1 : l ∉ μ2 := fun z => by
          obtain ⟨m, e1, e2⟩ := E12.pre
          rw [e1] at z
          rcases List.mem_append.mp z with z | z
          · exact hm z
          · exact absurd (e2 l z) (by rw [upd_same]; exact fun z => nomatch z)
        have hF1 : F2 l = none := by
          cases q : F2 l with
          | none => rfl
          | some w =>
            rcases E12.newF l (by rw [q]; simp) with z | z | z | ⟨_, z⟩ | ⟨_, z⟩
            · exact absurd hF z
            · exact absurd z hm
            · rw [upd_same] at z; cases z
            · rw [upd_same] at z; unfold NDict at z; cases z
            · rw [upd_same] at z; exact (code_ne (Option.some.inj z)).elim
        subst eb
        exact ⟨b, kk, rfl, kb, k8, hlD, p μ2 F2 _ ((E0.trans E12).updFree hl) (R2.updFree hm1 hF1) _ ⟨l, rfl, hl, by rw [upd_same]; simp, hm1, hF1, [(kk, b, vy)], by rw [upd_same, hP, hw], by simp [hk], fun x hx => by rw [List.mem_singleton.mp hx]; exact k8, .cons Vx2 .nil, .cons Vy .nil⟩⟩
end
end Z
set_option Elab.async false
set_option linter.all false
set_option maxRecDepth 100000
set_option maxHeartbeats 1000000
/-! Z39: list(d) where the keys are tuples. -/
namespace Z
open PySem PySem.Spec L2
section
variable {ca : Cn} {X : Cx} {W : WF} {pos : Pos} {e a b c : Expr}
/-- tuples that stand are taken into the frozen part -/
theorem fzTups {μ : List Addr} {H : Hp} {h : Own} {kvs : List (List Key × V)} {bs : List Addr} (ik : Paired (fun (p : List Key × V) (b : Addr) => H b = some (.tup (p.1.map kV))) kvs bs) : ∀ {F : Hp} {kds : List (List Key × D)}, RelH ca μ F h H → kvs.map (·.1) = kds.map (·.1) →
    ∃ F', RelH ca μ F' h H ∧ (∀ b, Ext b μ F H h μ F' H h) ∧ VRs ca μ F' (bs.map V.ref) (kds.map fun p => D.tup (p.1.map kD)) := by
  induction ik with
  | nil =>
    intro F kds R e
    cases kds with
    | nil => exact ⟨F, R, fun b => Ext.refl, .nil⟩
    | cons p kds => cases e
  | @cons kv b kvs bs h1 t ih =>
    intro F kds R e
    cases kds with
    | nil => cases e
    | cons p kds =>
      rw [List.map_cons, List.map_cons] at e
      obtain ⟨e1, e2⟩ := List.cons.inj e
      obtain ⟨F1, w1, R1, E1⟩ := R.fzTup h1
      obtain ⟨F2, R2, E2, V2⟩ := ih R1 e2
      refine ⟨F2, R2, fun b => (E1 b).trans (E2 b), .cons ?_ V2⟩
      show VR ca μ F2 (V.ref b) (.tup (p.1.map kD))
      rw [← e1]
      exact .tup ((E2 0).fz _ _ w1) (kDs_ok kv.1)
def fListT : FA := fun xs h => match xs with
  | [d] => match asD h d with
    | some (.t kds) => .ok (.n (.lst (kds.map fun p => .tup (p.1.map kD)))) h
    | _ => .stuck
  | _ => .stuck
def rListT : List V → Hp → VK → Prop := fun xs H Q => ∃ d kvs, xs = [V.ref d] ∧ Rd H d (.dT kvs) ∧ ∀ p bs, H p = none → IsKeys H kvs bs → Q (.ref p) (upd H p (.lst (bs.map V.ref)))
theorem lk_listT : LkA ca fListT rListT := by
  intro b μ F H h Wx vs ds Q R Vs _ p
  unfold fListT at p
  split at p
  · rename_i d
    obtain ⟨v, rfl, Vr⟩ := Vs.one
    split at p
    · rename_i kds ed
      obtain ⟨a, rfl, kvs, w1, w2, w3⟩ := asD_ok R Vr ed
      refine ⟨a, kvs, rfl, w1, fun l bs hl ik => ?_⟩
      obtain ⟨F', R', E', V'⟩ := fzTups ik R w2
      obtain ⟨e1, R1, w⟩ := neNew (b := b) R' hl (.lst (bs.map V.ref)) (o := .lst (kds.map fun p => .tup (p.1.map kD))) fun H' q => ⟨_, q, V'⟩
      exact p _ _ _ ((E' b).trans e1) R1 _ w
    · exact p.elim
  · exact p.elim
end
end Z
set_option Elab.async false
set_option linter.all false
set_option maxRecDepth 100000
set_option maxHeartbeats 1000000
/-! Z40: sorted(d) where the keys are pairs of ints. -/
namespace Z
open PySem PySem.Spec PyProof.Rows L2
/-- a pair of ints as a key -/
def kp (p : Int × Int) : List Key := [Sum.inl p.1, Sum.inl p.2]
def rSortedDP : List V → Hp → VK → Prop := fun xs H Q => ∃ (a : Addr) (kvs : List (List Key × V)) (ks : List (Int × Int)), xs = [V.ref a] ∧ Rd H a (.dT kvs) ∧ kvs.map (·.1) = ks.map kp ∧
  ∀ (bs : List (Addr × (Int × Int))) (ys : List (Addr × (Int × Int))) (p : Addr), bs.map (·.2) = ks → (∀ b ∈ bs, H b.1 = some (.tup [.int b.2.1, .int b.2.2])) → ys.Perm bs → ys.Pairwise (fun x y => SrtO.lexB y.2 x.2 = false) → H p = none → Q (.ref p) (upd H p (.lst (ys.map fun y => V.ref y.1)))
theorem pairs_of {H : Hp} {kvs : List (List Key × V)} {ks : List (List Key × Addr × Value)} (r : Paired (fun (p : List Key × V) (q : List Key × Addr × Value) => p.1 = q.1 ∧ H q.2.1 = some (.tup (p.1.map kV)) ∧ RelV p.2 q.2.2) kvs ks) : ∀ {ks0 : List (Int × Int)}, kvs.map (·.1) = ks0.map kp →
    ∃ bs : List (Addr × (Int × Int)), bs.map (·.1) = ks.map (fun x => x.2.1) ∧ bs.map (·.2) = ks0 ∧ ∀ b ∈ bs, H b.1 = some (.tup [.int b.2.1, .int b.2.2]) := by
  induction r with
  | nil =>
    intro ks0 e
    cases ks0 with
    | nil => exact ⟨[], rfl, rfl, fun b hb => by cases hb⟩
    | cons p ks0 => cases e
  | @cons kv q kvs ks h t ih =>
    intro ks0 e
    cases ks0 with
    | nil => cases e
    | cons p ks0 =>
      rw [List.map_cons, List.map_cons] at e
      obtain ⟨e1, e2⟩ := List.cons.inj e
      obtain ⟨bs, b1, b2, b3⟩ := ih e2
      refine ⟨(q.2.1, p) :: bs, by rw [List.map_cons, List.map_cons, b1], by rw [List.map_cons, b2], fun b hb => ?_⟩
      rcases List.mem_cons.mp hb with rfl | hb
      · have := h.2.1
        rw [e1] at this
        exact this
      · exact b3 b hb
open Classical in
noncomputable def kfOf (bs : List (Addr × (Int × Int))) (v : Value) : Int × Int := ((bs.find? fun b => decide (v = Value.ref b.1)).map (·.2)).getD (0, 0)
open Classical in
theorem kfOf_eq {H : Hp} {bs : List (Addr × (Int × Int))} (hb : ∀ b ∈ bs, H b.1 = some (.tup [.int b.2.1, .int b.2.2])) {b : Addr × (Int × Int)} (m : b ∈ bs) : kfOf bs (.ref b.1) = b.2 := by
  unfold kfOf
  cases h : bs.find? fun c => decide (Value.ref b.1 = Value.ref c.1) with
  | none =>
    have := List.find?_eq_none.mp h b m
    simp at this
  | some c =>
    have c1 := List.find?_some h
    have c2 : b.1 = c.1 := by
      have : Value.ref b.1 = Value.ref c.1 := of_decide_eq_true c1
      exact Value.ref.inj this
    have c3 := hb c (List.mem_of_find?_eq_some h)
    have c4 := hb b m
    rw [← c2, c4] at c3
    have c5 := Option.some.inj c3
    simp only [HO.tup.injEq, List.cons.injEq, V.int.injEq, and_true] at c5
    show c.2 = b.2
    exact (Prod.ext c5.1 c5.2).symm
theorem call_sortedDP {X : Cx} (hc : X.calm = true) : CallR X (.builtin "sorted") rSortedDP := by
  intro pins s σ H xs us Q I r h
  obtain ⟨d, kvs, ks0, rfl, hd, hks, q⟩ := h
  obtain ⟨u, rfl, rx⟩ := vals1 r
  cases rx
  obtain ⟨z, hs, ks, pr, o, es, ep, ho, hx, hdt, he, hn⟩ := (show ObjOk X.prog X.w H s.heap d (.dT kvs) from hd.ok I.hok)
  have l1 : es.size = ks.length := size_of_entries he
  have l2 : kvs.length = ks.length := Paired.length pr
  refine Calls.call_function_entry PyProof.Rows.kind_sorted PyProof.Rows.plain_sorted PyProof.Rows.entry_sorted (PyProof.Rows.args_sorted1 _) ?_
  unfold Builtin.«sorted»
  refine wpAny_bind (m := checkCount "sorted" 1 1 _) (wpAny_pure ?_)
  refine wpAny_bind (PySem.W.kdu_collect (A := X.A.in1) (kdl_raw hs hx hdt) (I.ok.hd hc) ho (by omega) fun h' tk acc hk hacc => ?_)
  have ea : acc.toList = ks.map fun x => Value.ref x.2.1 := by
    have hl : acc.toList.length = ks.length := by rw [Array.length_toList, hacc.1]; exact l1
    apply List.ext_getElem?
    intro j
    rw [List.getElem?_map]
    cases hj : acc.toList[j]? with
    | none =>
      have h1 := List.getElem?_eq_none_iff.mp hj
      rw [List.getElem?_eq_none (by omega)]
      all_goals rfl
    | some v =>
      obtain ⟨en, hen, hv⟩ := hacc.2 j v (by rw [← Array.getElem?_toList]; exact hj)
      have qe := entry_at he j
      rw [hen] at qe
      cases hb : ks[j]? with
      | none =>
        rw [hb] at qe
        exact nomatch (show some en = none from qe)
      | some b =>
        rw [hb] at qe
        have e2 : en = entryOfKey (tupleKind (mixKind X.prog X.w)) b := Option.some.inj qe
        rw [hv, e2]
        all_goals rfl
  obtain ⟨bs, b1, b2, b3⟩ := pairs_of pr hks
  have ev : acc.toList = bs.map fun b => Value.ref b.1 := by
    have : (ks.map fun x => Value.ref x.2.1) = (ks.map fun x => x.2.1).map Value.ref := by rw [List.map_map]; rfl
    rw [ea, this, ← b1, List.map_map]
    rfl
  have hz : acc.toList.length ≤ sizeLine := by rw [ea, List.length_map]; omega
  have I1 : Inv X pins σ H { s with heap := h', toks := tk } := I.kept hk
  refine wpAny_bind (wpAny_newList ?_ hz)
  have hoL : (h'.push (seqObj "list" acc.toList.toArray 0)).get? h'.objs.size = some (seqObj "list" acc.toList.toArray 0) := Heap.get?_push_size _ rfl
  show wpAny _ _ _ _ _ { s with heap := h'.push (seqObj "list" acc.toList.toArray 0), toks := tk }
  refine wpAny_bind (wpAny_holding (wpAny_call_entry slot_list_sort ⟨_, hoL, rfl⟩ entry_list_sort (SrtO.list_sort_ord (SrtO.swo_lex (kfOf bs)) hoL hz (fun h2 => SrtO.pairs_sortableO (by omega) (fun v hv => ?_) (fun o e => ?_)) fun out g1 g2 => ⟨_, rfl, ?_⟩) (args_list_sort _)))
  · rw [ev] at hv
    obtain ⟨b, hb, rfl⟩ := List.mem_map.mp hv
    rw [kfOf_eq b3 hb]
    obtain ⟨_, its2, r2, o, ho2, hc2, n, hd2⟩ := I1.hok _ _ (b3 b hb)
    obtain ⟨u1, u2, rfl, ri, rj⟩ := vals2 r2
    obtain ⟨t1, rfl⟩ := ri
    obtain ⟨t2, rfl⟩ := rj
    exact ⟨b.1, o, t1, t2, n, rfl, Heap.get?_push_of_some _ ho2, hc2, hd2⟩
  · have e' : some o = some (seqObj "list" acc.toList.toArray 0) := e.symm.trans hoL
    cases e'
    intro c
    exact absurd (Value.type.inj c) (by decide)
  · obtain ⟨e', he'⟩ := PyProof.Rows.sortedHeap_at (vs := acc.toList) (out := out.toArray) hoL
    obtain ⟨ys, y1, y2⟩ := L2.perm_lift (fun b : Addr × (Int × Int) => Value.ref b.1) (ev ▸ g2.perm) bs rfl
    have hlen : (ys.map fun y => V.ref y.1).length ≤ sizeLine := by
      rw [List.length_map, y1.length_eq]
      have := congrArg List.length ev
      rw [List.length_map] at this
      omega
    have hv : ∀ l : List (Addr × (Int × Int)), Vals (l.map fun y => V.ref y.1) (l.map fun b => Value.ref b.1) := by
      intro l
      induction l with
      | nil => exact .nil
      | cons b l ih => exact .cons rfl ih
    have gs : ys.Pairwise (fun x y => SrtO.lexB y.2 x.2 = false) := by
      have g3 := g1
      rw [← y2] at g3
      have g4 := List.pairwise_map.mp g3
      refine List.Pairwise.imp_of_mem (fun {x y} mx my h => ?_) g4
      have : SrtO.lexB (kfOf bs (.ref y.1)) (kfOf bs (.ref x.1)) = false := h
      rw [kfOf_eq b3 (y1.mem_iff.mp mx), kfOf_eq b3 (y1.mem_iff.mp my)] at this
      exact this
    refine wpAny_pure ⟨_, rfl, .ref h'.objs.size, upd H h'.objs.size (.lst (ys.map fun y => V.ref y.1)), I1.laid (t' := tk) (fun b u e => ?_) (Nat.le_refl _)
      (show ObjOk X.prog X.w _ _ _ (.lst (ys.map fun y => V.ref y.1)) from ⟨hlen, out, e', y2 ▸ hv ys, he'⟩), rfl, q bs ys _ b2 b3 y1 gs (I1.hok.fresh (Nat.le_refl _))⟩
    have hb : b < h'.objs.size := Heap.lt_size e
    rw [PyProof.Rows.sortedHeap_old (Nat.ne_of_lt hb) (by rw [size_push']; exact Nat.lt_succ_of_lt hb)]
    exact Heap.get?_push_of_some _ e
end Z
set_option Elab.async false
set_option linter.all false
set_option maxRecDepth 100000
set_option maxHeartbeats 1000000
/-! Z41: sorted(d), the keys pairs of ints, at the level of W. -/
namespace Z
open PySem PySem.Spec L2
section
variable {ca : Cn} {X : Cx} {W : WF} {pos : Pos} {e a b c : Expr}
def ip : List Key → Option (Int × Int)
  | [.inl a, .inl b] => some (a, b)
  | _ => none
theorem ip_ok {k : List Key} {p : Int × Int} (h : ip k = some p) : k = kp p := by
  unfold ip at h
  split at h
  · cases h; rfl
  · cases h
def ips : List (List Key) → Option (List (Int × Int))
  | [] => some []
  | k :: l => match ip k, ips l with
    | some p, some r => some (p :: r)
    | _, _ => none
theorem ips_ok : ∀ {l : List (List Key)} {ks : List (Int × Int)}, ips l = some ks → l = ks.map kp
  | [], ks, h => by cases h; rfl
  | k :: l, ks, h => by
    unfold ips at h
    split at h
    · rename_i p r h1 h2
      cases h
      rw [List.map_cons, ← ip_ok h1, ← ips_ok h2]
    · cases h
theorem ips_kp : ∀ ks : List (Int × Int), ips (ks.map kp) = some ks
  | [] => rfl
  | p :: ks => by
    rw [List.map_cons]
    unfold ips
    rw [ips_kp ks]
    rfl
def sortPP (ks : List (Int × Int)) : List (Int × Int) := ks.mergeSort fun x y => !SrtO.lexB y x
theorem sortPP_eq {ks ys : List (Int × Int)} (hp : ys.Perm ks) (hs : ys.Pairwise fun x y => SrtO.lexB y x = false) : ys = sortPP ks := by
  have h1 : (sortPP ks).Perm ks := List.mergeSort_perm _ _
  have h2 : (sortPP ks).Pairwise fun x y => SrtO.lexB y x = false := by
    have := List.pairwise_mergeSort (le := fun x y : Int × Int => !SrtO.lexB y x) (fun a b c h1 h2 => by
      simp only [SrtO.lexB, Bool.not_eq_true'] at *
      split at h1 <;> split at h2 <;> split <;> simp only [decide_eq_false_iff_not] at * <;> omega) (fun a b => by
      simp only [SrtO.lexB]
      by_cases e : a.1 = b.1
      · simp [e]; omega
      · have e' : ¬ b.1 = a.1 := fun h => e h.symm
        simp [e, e']; omega) ks
    exact this.imp fun h => by simpa using h
  refine (hp.trans h1.symm).eq_of_pairwise (fun a b _ _ h1 h2 => ?_) hs h2
  simp only [SrtO.lexB] at h1 h2
  refine Prod.ext ?_ ?_
  · split at h1 <;> split at h2 <;> simp only [decide_eq_false_iff_not] at * <;> omega
  · split at h1 <;> split at h2 <;> simp only [decide_eq_false_iff_not] at * <;> omega
def dP (p : Int × Int) : D := .tup ((kp p).map kD)
def fSortDP : FA := fun xs h => match xs with
  | [d] => match asD h d with
    | some (.t kds) => match ips (kds.map (·.1)) with
      | some ks => .ok (.n (.lst ((sortPP ks).map dP))) h
      | none => .stuck
    | _ => .stuck
  | _ => .stuck
theorem pair_ys {H : Hp} : ∀ ys : List (Addr × (Int × Int)), (∀ y ∈ ys, H y.1 = some (.tup [.int y.2.1, .int y.2.2])) →
    Paired (fun (p : List Key × V) (b : Addr) => H b = some (.tup (p.1.map kV))) (ys.map fun y => (kp y.2, V.int 0)) (ys.map (·.1))
  | [], _ => .nil
  | y :: ys, h => .cons (h y List.mem_cons_self) (pair_ys ys fun z hz => h z (List.mem_cons_of_mem _ hz))
theorem lk_sortDP : LkA ca fSortDP rSortedDP := by
  intro b μ F H h Wx vs ds Q R Vs _ p
  unfold fSortDP at p
  split at p
  · rename_i d
    obtain ⟨v, rfl, Vr⟩ := Vs.one
    split at p
    · rename_i kds ed
      split at p
      · rename_i ks ek
        obtain ⟨a, rfl, kvs, w1, w2, w3⟩ := asD_ok R Vr ed
        refine ⟨a, kvs, ks, rfl, w1, w2.trans (ips_ok ek), fun bs ys l b1 b2 b3 b4 hl => ?_⟩
        have hy : ∀ y ∈ ys, H y.1 = some (.tup [.int y.2.1, .int y.2.2]) := fun y hy => b2 y (b3.mem_iff.mp hy)
        obtain ⟨F', R', E', V'⟩ := fzTups (pair_ys ys hy) R (kds := ys.map fun y => (kp y.2, D.tup [])) (by rw [List.map_map, List.map_map]; rfl)
        have es : ys.map (·.2) = sortPP ks := sortPP_eq (b1 ▸ b3.map _) (List.pairwise_map.mpr b4)
        have V2 : VRs ca μ F' (ys.map fun y => V.ref y.1) ((sortPP ks).map dP) := by
          rw [← es, List.map_map]
          rw [List.map_map, List.map_map] at V'
          exact V'
        obtain ⟨e1, R1, w⟩ := neNew (b := b) R' hl (.lst (ys.map fun y => V.ref y.1)) (o := .lst ((sortPP ks).map dP)) fun H' q => ⟨_, q, V2⟩
        exact p _ _ _ ((E' b).trans e1) R1 _ w
      · exact p.elim
    · exact p.elim
  · exact p.elim
end
end Z
set_option Elab.async false
set_option linter.all false
set_option maxRecDepth 100000
set_option maxHeartbeats 1000000
/-! Z42: list(range(n)). -/
namespace Z
open PySem PySem.Spec L2
section
variable {ca : Cn} {X : Cx} {W : WF} {pos : Pos} {e a b c : Expr}
def fLRg : F1 := fun x h => match x with
  | .int n => if 0 ≤ n ∧ n ≤ 16777216 then .ok (.n (.lst ((List.range n.toNat).map fun i : Nat => D.int (i : Int)))) h else .stuck
  | _ => .stuck
theorem vrs_rg {μ : List Addr} {F : Hp} (n : Int) : VRs ca μ F (rgV 0 n) ((List.range n.toNat).map fun i : Nat => D.int (i : Int)) := by
  unfold rgV
  rw [Int.sub_zero]
  generalize List.range n.toNat = l
  induction l with
  | nil => exact .nil
  | cons i l ih =>
    rw [List.map_cons, List.map_cons, Int.zero_add]
    exact .cons (.int _) ih
theorem se_listRg {ta : ED} {p p2 : Pos} (hc : X.calm = true) (hg : Gl X "list") (hm : X.mg "list" = none) (hg2 : Gl X "range") (hm2 : X.mg "range" = none) (ha : SD ca X W a ta)
    (na : starEach [a] X.env = (false, eval a X.env) :: starEach [] X.env := by rfl) (nb : starEach [.Call (.Name "range" p2) [a] [] pos] X.env = (false, eval (.Call (.Name "range" p2) [a] [] pos) X.env) :: starEach [] X.env := by rfl) {pos2 : Pos} :
    SE ca X W (.Call (.Name "list" p) [.Call (.Name "range" p2) [a] [] pos] [] pos2) (e1 fLRg ta) :=
  PE.imp (pe_listRg hc hg hm (prg_1 hg2 hm2 ha na) nb) (lk_un (r := fun x H1 Q => ∃ n, x = .int n ∧ RgOk 0 n ∧ ∀ q, H1 q = none → Q (.ref q) (upd H1 q (.lst (rgV 0 n)))) (by
    intro b μ F H h Wx x c Q R V1 _ p
    cases V1 with
    | int n =>
      unfold fLRg at p
      simp only at p
      split at p
      · rename_i hn
        refine ⟨n, rfl, RgOk.of_le (by omega) hn.2 (by omega) hn.1, fun l hl => ?_⟩
        obtain ⟨e1, R1, w⟩ := neNew (b := b) R hl (.lst (rgV 0 n)) (o := .lst ((List.range n.toNat).map fun i : Nat => D.int (i : Int))) fun H' q => ⟨_, q, vrs_rg n⟩
        exact p _ _ _ e1 R1 _ w
      · exact p.elim
    | _ => exact (show False from p).elim))
end
end Z
set_option Elab.async false
set_option linter.all false
set_option maxRecDepth 100000
set_option maxHeartbeats 2000000
/-! N2: dict comprehensions into a new dict of any kind of keys, as a value and as name = {..}. -/
namespace Z
open PySem PySem.Spec L2 PyProof.Rows
/-- a kind of new dict: how it stands empty, how a pair is laid into it -/
structure DKind (P : Program) (w : World) (o0 : Addr → HO) (st : Hp → Addr → V → V → Hp → Prop) : Prop where
  em : ∀ (H : Hp) (h : Heap), sysModules < h.objs.size → ObjOk P w H (h.push { cls := .type "dict", data := .dict #[] }) h.objs.size (o0 h.objs.size)
  put : ∀ {X : Cx} {pins : List (Addr × Obj)} {σ : L2.St} {H H' : Hp} {s : Shared} {E : Value → Shared → Prop} {D : Addr} {u r : Value} {y z : V} {Q : Unit → Shared → Prop}, X.prog = P → X.w = w → X.A.units + 9 < cLine → Inv X pins σ H s → st H D y z H' → RelV y u → RelV z r →
    (∀ s', Inv X pins σ H' s' → Q () s') → wpAny (model X.prog X.w) X.A (dictSet D u r) Q E s
abbrev stK : Hp → Addr → V → V → Hp → Prop := fun H D y z H' => ∃ kvs k, y = kV k ∧ H D = some (.dK kvs) ∧ kvs.length < sizeLine ∧ H' = upd H D (.dK (putK kvs k z))
abbrev stT : Hp → Addr → V → V → Hp → Prop := fun H D y z H' => ∃ kvs k b, y = .ref b ∧ H b = some (.tup (k.map kV)) ∧ H D = some (.dT kvs) ∧ kvs.length < sizeLine ∧ H' = upd H D (.dT (putK kvs k z))
abbrev stN (P : Program) (w : World) : Hp → Addr → V → V → Hp → Prop := fun H D y z H' => ∃ xs k b, y = .ref b ∧ NK H k (.ref b) ∧ k.depth ≤ 8 ∧ H D = some (NDict P w D xs) ∧ NKey H xs ∧ xs.length < sizeLine ∧ H' = upd H D (NDict P w D (nput xs k b z))
theorem dkind_K {P : Program} {w : World} : DKind P w (fun _ => .dK []) stK :=
  ⟨fun H h hb => dk_empty h hb, fun {X pins σ H H' s E D u r y z Q} _ _ _ I ⟨kvs, k, ey, hD, hz, e⟩ ry rz h => by
    subst ey e
    exact d_dictSet I hD hz ry rz h⟩
theorem dkind_T {P : Program} {w : World} : DKind P w (fun _ => .dT []) stT :=
  ⟨fun H h hb => dt_empty h hb, fun {X pins σ H H' s E D u r y z Q} _ _ hu I ⟨kvs, k, b, ey, eb, hD, hz, e⟩ ry rz h => by
    subst ey e
    cases (show u = Value.ref b from ry)
    obtain ⟨q1, q2, xs, rel, dd⟩ := dt_of I.hok hD
    have room : (tupleKind (mixKind X.prog X.w)).room X.A := by
      unfold tupleKind
      show X.A.units < cLine
      omega
    refine wpAny_dictSet_heap room (key_of I.hok eb) dd (hsz := (Paired.length rel) ▸ q1) fun h' ⟨q, es, ep, w1, w2, w3, w4, _, w5⟩ hs => h _ ?_
    refine d_write I (by rw [hD]; exact True.intro) hs ⟨q, w1⟩ ⟨Nat.le_trans (length_putK kvs k z) hz, q2, _, (rel.put k eb rz).keeps fun c ys ec => ?_, q, es, ep, w1, w2, w3, w4, w5⟩
    exact (upd_ne (ne_of ec hD (fun z => nomatch z))).trans ec⟩
theorem dkind_N {P : Program} {w : World} : DKind P w (fun D => NDict P w D []) (stN P w) :=
  ⟨fun H h hb => nd_empty h hb, fun {X pins σ H H' s E D u r y z Q} eP ew hu I ⟨xs, k, b, ey, kb, kd, hD, ks, hl, e⟩ ry rz h => by
    subst ey e eP ew
    cases (show u = Value.ref b from ry)
    obtain ⟨z1, hd, ys, rel, dd⟩ := nd_of I.hok hD ks
    have hl' : (nput xs k b z).length ≤ sizeLine := Nat.le_trans (length_nput xs k b z) hl
    have room : (nestedKind X.prog X.w).room X.A := by
      unfold nestedKind
      show X.A.units + 8 < cLine
      omega
    refine wpAny_dictSet_heap (knd := nestedKind X.prog X.w) room ⟨kb.is I.hok rfl, kd⟩ dd (hsz := (Paired.length rel) ▸ z1) fun h' dd' hs => h _ ?_
    exact d_write I (by rw [hD]; exact True.intro) hs (let ⟨q, _, _, hq, _⟩ := dd'; ⟨q, hq⟩) (nd_ok hl' hd (nrel_put rel rz) dd')⟩
section
variable {X : Cx}
/-- {k: v for target in iter if ..} into a new dict -/
def tDx (o0 : Addr → HO) (st : Hp → Addr → V → V → Hp → Prop) (wi : TI) (g : TG) (tt : L2.TT) (tk tv : TE) (vs : List Nat) : TE := fun σ H Q => wi σ H fun J H1 => ∀ D, H1 D = none → ∃ W : Nat → Nat → Hp → Prop, (∃ m, W 0 m (upd H1 D (o0 D))) ∧ ∀ i m H, W i m H →
  (J.stop i H ∧ Q (.ref D) H) ∨ (J.go i H ∧ ∃ Nx : Hp → Prop, (∀ H', Nx H' → ∃ m', m' < m ∧ W (i + 1) m' H') ∧ ∀ x H', J.yld i H x H' → g x (wipe σ vs) H' fun σ2 H2 => wipe σ2 vs = wipe σ vs ∧ tt σ2 H2 fun b H3 =>
    if b = true then tk σ2 H3 fun y H4 => tv σ2 H4 fun z H5 => ∃ H6, st H5 D y z H6 ∧ Nx H6 else Nx H3)
/-- what the parts of a comprehension do in its block -/
structure DParts (X : Cx) (scope : Scope) (tg : Expr) (ifs : List Expr) (kx vx : Expr) (g : TG) (tt : L2.TT) (tk tv : TE) : Prop where
  tg : ∀ (s : Shared) (H : Hp) (C : Addr) (cl : List (Str × Addr)) (fp : List Addr), PG (X.blk s H scope (compEnvC scope cl C X.env) fp) tg g
  ts : ∀ (s : Shared) (H : Hp) (C : Addr) (cl : List (Str × Addr)) (fp : List Addr), PTs (X.blk s H scope (compEnvC scope cl C X.env) fp) ifs tt
  ky : ∀ (s : Shared) (H : Hp) (C : Addr) (cl : List (Str × Addr)) (fp : List Addr), PE (X.blk s H scope (compEnvC scope cl C X.env) fp) kx tk
  vl : ∀ (s : Shared) (H : Hp) (C : Addr) (cl : List (Str × Addr)) (fp : List Addr), PE (X.blk s H scope (compEnvC scope cl C X.env) fp) vx tv
theorem dx_core {P : Program} {w : World} {o0 : Addr → HO} {st : Hp → Addr → V → V → Hp → Prop} (DK : DKind P w o0 st) {pins : List (Addr × Obj)} {s : Shared} {σ : L2.St} {H : Hp} {Q : VK} {kx vx tg iter : Expr} {ifs : List Expr} {scope : Scope} {own : List (Str × Nat)} {pos pos' : Pos} {wi : TI} {g : TG} {tt : L2.TT} {tk tv : TE} {use : Option (Value → Sem Unit)} {Qf : Value → Shared → Prop}
    (hP : X.prog = P) (hw : X.w = w) (hu : X.A.units + 9 < cLine) (calm : X.calm = true) (nd : X.N.Nodup) (I : Inv X pins σ H s) (hi : PI X tg iter wi) (ok : BlkOk X.N X.env.scope scope own) (pt : DParts X scope tg ifs kx vx g tt tk tv) (hs : ∀ x, foldedSetIterable iter X.env x = pure x)
    (h : tDx o0 st wi g tt tk tv (own.map (·.2)) σ H Q)
    (fin : ∀ D C s' m H', Inv X pins σ H' s' → Q (.ref D) H' → s'.heap.Ns C m → FpOk X pins H' C → compPost (model X.prog X.w) X.A X.xe use Qf (.ref D) C (.ok .next) s') :
    wpAny (model X.prog X.w) X.A (comprehension (.DictComp kx vx [⟨tg, iter, ifs, 0⟩] scope pos) scope X.env pos' newDict false (eval iter X.env) use) Qf X.xe s := by
  have fr : ∀ y ∈ scope.names, y.2 = .free → ∃ c, X.env.cells.lookup y.1 = some c := fun y hy e => (ok.free y hy e).elim (fun k => I.ok.has _ (.inl k)) (fun k => I.ok.has _ (.inr k))
  refine wpAny_comprehension_free (use := use) rfl hs (closure_ok fr) ok.kind (fun y hy e => (ok.uniq y hy).trans (congrArg some e)) ?_
  refine thn (hi.run pins s σ H _ I h) fun _ _ hx => thn hx fun _ s2 ⟨it, fp, tn, J, H2, e, I2, T, st2, f2, q⟩ => ?_
  cases e
  refine wpAny_newObj_type (newEnv_comp ?_)
  obtain ⟨D, hD⟩ : ∃ D, s2.heap.objs.size = D := ⟨_, rfl⟩
  rw [hD]
  obtain ⟨W, ⟨m0, w0⟩, turn⟩ := q D (I2.hok.fresh (Nat.le_of_eq hD))
  -- the dict is laid
  obtain ⟨s3, hs3⟩ : ∃ s3 : Shared, ({ s2 with heap := s2.heap.push { cls := .type "dict", data := .dict #[] } } : Shared) = s3 := ⟨_, rfl⟩
  have h3 : s3.heap = s2.heap.push { cls := .type "dict", data := .dict #[] } := hs3 ▸ rfl
  rw [hs3]
  have keep3 : ∀ b o, s2.heap.get? b = some o → s3.heap.get? b = some o := fun b o e => h3 ▸ Heap.get?_push_of_some _ e
  have I3 : Inv X pins σ (upd H2 D (o0 D)) s3 := by
    subst hs3 hD hP hw
    exact I2.laid (t' := s2.toks) (fun b o e => Heap.get?_push_of_some _ e) (Nat.le_refl _) (DK.em _ _ I2.big)
  have f3 : ∀ b ∈ fp, FpOk X pins (upd H2 D (o0 D)) b ∧ b < s3.heap.objs.size := fun b hb => by
    obtain ⟨o, e, _⟩ := T.obj _ _ st2 b hb
    have lt := Heap.lt_size e
    have ne : b ≠ D := fun z => absurd lt (by rw [z, hD]; exact Nat.lt_irrefl _)
    exact ⟨⟨(upd_ne ne).trans (f2 b hb).1, (f2 b hb).2⟩, Heap.lt_size (keep3 b o e)⟩
  have st3 : tn 0 s3.heap := T.keep _ _ _ st2 fun b _ => keep3 b
  have I4 := block_start I3 ok nd f3
  obtain ⟨C, hC⟩ : ∃ C, s3.heap.objs.size = C := ⟨_, rfl⟩
  obtain ⟨cl, hcl⟩ : ∃ cl, cellsFrom (s3.heap.objs.size + 1) scope.names (cloFrom X.env.cells scope.names []) = cl := ⟨_, rfl⟩
  obtain ⟨ce, hce⟩ : ∃ ce, compEnvC scope cl C X.env = ce := ⟨_, rfl⟩
  obtain ⟨H3, hH3⟩ : ∃ H3, upd H2 D (o0 D) = H3 := ⟨_, rfl⟩
  obtain ⟨s4, hs4⟩ : ∃ s4 : Shared, ({ s3 with heap := pushCells (s3.heap.push { cls := .type "dict", data := .dict #[] }) scope.names } : Shared) = s4 := ⟨_, rfl⟩
  have at3 := pt.tg s3 H3 C cl fp
  have as3 := pt.ts s3 H3 C cl fp
  have ak3 := pt.ky s3 H3 C cl fp
  have av3 := pt.vl s3 H3 C cl fp
  have st4 : tn 0 s4.heap := T.keep _ _ _ st3 fun b _ o e => by rw [← hs4]; exact pushCells_keeps _ _ _ _ (Heap.get?_push_of_some _ e)
  show codeAny _ _ (.compStart (.DictComp kx vx [⟨tg, iter, ifs, 0⟩] scope pos) 0 (.ref it) (.ref D) (compEnvC scope (cellsFrom (s3.heap.objs.size + 1) scope.names (cloFrom X.env.cells scope.names [])) s3.heap.objs.size X.env)) (compPost (model X.prog X.w) X.A X.xe use Qf (.ref D) s3.heap.objs.size) { s3 with heap := pushCells (s3.heap.push { cls := .type "dict", data := .dict #[] }) scope.names }
  rw [hs4]
  rw [hs4] at I4
  rw [hcl, hC, hce] at I4 ⊢
  rw [hce] at at3 as3 ak3 av3
  rw [hH3] at I3 I4 f3 w0
  have loc : ce.locals = C := hce ▸ rfl
  have fpS : ∀ {σ' : L2.St} {H' : Hp} {s' : Shared}, Inv (X.blk s3 H3 scope ce fp) [] σ' H' s' → (∀ b ∈ fp, H' b = none) → ∀ b ∈ fp, FpOk (X.blk s3 H3 scope ce fp) [] H' b := fun I' hn b hb =>
    ⟨hn b hb, (I'.ok.exf b hb).1, I'.ok.exfs b hb, .inl hb, fun x c e => (I'.ok.exf b hb).2 x c e, fun p hp => by cases (show p ∈ ([] : List (Addr × Obj)) ++ [] from hp)⟩
  refine codeAny_compStart_dict ?lp (T.self X.A 0 _ _ _ st4 ?lp)
  case lp =>
    refine compLoop_anyD (fun n s' => ∃ i H', Inv (X.blk s3 H3 scope ce fp) [] (wipe σ (own.map (·.2))) H' s' ∧ tn i s'.heap ∧ (∀ b ∈ fp, H' b = none) ∧ W i n H') (fun n s5 ⟨i, H5, I5, st5, n5, w5⟩ => ?_) m0 ⟨0, H3, I4, st4, fun b hb => (f3 b hb).1.1, w0⟩
    rcases turn i n H5 w5 with ⟨stop, qq⟩ | ⟨go, Nx, hNx, step⟩
    · refine thnF (T.done (X.blk s3 H3 scope ce fp) rfl rfl rfl calm i [] s5 _ H5 (fun _ _ => False) I5 (fpS I5 n5) st5 stop) fun r s6 ⟨hr, I6⟩ => ?_
      cases hr
      have I7 : Inv X pins σ H5 s6 := I3.call' (ch := fp) I6.os I6.base I6.hok I6.bare fun b hb => let ⟨_, a2, a3, a4, a5, a6⟩ := (f3 b hb).1; ⟨a4, a2, a5, a6⟩
      have free : H5 ce.locals = none := I6.free
      obtain ⟨m, hn, _⟩ := I6.loc
      have hn' : s6.heap.Ns ce.locals m := hn
      rw [loc] at free hn'
      exact fin D C s6 m H5 I7 qq hn' (I3.fpOk (Nat.le_of_eq hC) free)
    · refine thnF (T.item (X.blk s3 H3 scope ce fp) rfl rfl rfl calm i [] s5 _ H5 (fun _ _ => False) I5 (fpS I5 n5) st5 go) fun r s6 ⟨u, hr, h6⟩ => ?_
      cases hr
      refine thnF h6 fun _ s7 ⟨x, H7, I7, r7, y7, st7, n7⟩ => ?_
      refine thnF (at3.run _ s7 _ H7 x u _ (I7.pinned (fpS I7 n7) (T.obj _ _ st7)) r7 (step x H7 y7)) fun _ s8 ⟨σ8, H8, I8, hw8, q8⟩ => ?_
      refine thnF (as3.run _ s8 σ8 H8 _ I8 q8) fun b s9 ⟨H9, I9, q9⟩ => ?_
      have nxt : ∀ {s' : Shared} {H' : Hp}, Inv (X.blk s3 H3 scope ce fp) ([] ++ pinsAt fp s7.heap) σ8 H' s' → Nx H' → ∃ m, m < n ∧ ∃ i H', Inv (X.blk s3 H3 scope ce fp) [] (wipe σ (own.map (·.2))) H' s' ∧ tn i s'.heap ∧ (∀ b ∈ fp, H' b = none) ∧ W i m H' := fun {s' H'} I' nx => by
        obtain ⟨m', hm, w'⟩ := hNx H' nx
        have pin : ∀ b ∈ fp, ∀ o, s7.heap.get? b = some o → s'.heap.get? b = some o ∧ H' b = none := fun b hb o e =>
          (I'.pin (b, o) (List.mem_append_right _ (List.mem_append_right _ (mem_pinsAt hb e)))).imp id And.left
        refine ⟨m', hm, i + 1, H', (I'.unpinned (pins := [])).weak (by rw [← hw8, wipe_length]) (fun j v e => (wipe_some (hw8 ▸ e)).1), T.keep _ _ _ st7 fun b hb o e => (pin b hb o e).1, fun b hb => ?_, w'⟩
        obtain ⟨o, e, _⟩ := T.obj _ _ st7 b hb
        exact (pin b hb o e).2
      cases b with
      | false => exact nxt I9 (by simpa using q9)
      | true =>
        simp only [if_true] at q9 ⊢
        refine thnF (ak3.run _ s9 σ8 H9 _ I9 q9) fun _ s10 ⟨yk, H10, I10, r10, q10⟩ => ?_
        refine thnF (av3.run _ s10 σ8 H10 _ I10 q10) fun _ s11 ⟨yv, H11, I11, r11, H6, hst, nx⟩ => ?_
        exact DK.put (X := X.blk s3 H3 scope ce fp) hP hw hu I11 hst r10 r11 fun s12 I12 => nxt I12 nx
section
variable {P : Program} {w : World} {o0 : Addr → HO} {st : Hp → Addr → V → V → Hp → Prop} {kx vx tg iter : Expr} {ifs : List Expr} {scope : Scope} {own : List (Str × Nat)} {pos spos py : Pos} {wi : TI} {g : TG} {tt : L2.TT} {tk tv : TE} {i : Nat} {y : Str}
theorem pe_dx (DK : DKind P w o0 st) (hP : X.prog = P) (hw : X.w = w) (hu : X.A.units + 9 < cLine) (calm : X.calm = true) (nd : X.N.Nodup) (hi : PI X tg iter wi) (ok : BlkOk X.N X.env.scope scope own) (pt : DParts X scope tg ifs kx vx g tt tk tv) (hs : ∀ x, foldedSetIterable iter X.env x = pure x) :
    PE X (.DictComp kx vx [⟨tg, iter, ifs, 0⟩] scope pos) (tDx o0 st wi g tt tk tv (own.map (·.2))) := ⟨fun pins s σ H Q I h => by
  rw [arm_eval_DictComp]
  exact dx_core DK hP hw hu calm nd I hi ok pt hs h fun D C s' m H' I' q hn ⟨f0, f1, _, f3, f4, f5⟩ => ⟨m, hn, fun h'' sb => ⟨.ref D, H', I'.turned (t' := s'.toks) (fun b o hb e => (sb.2 b hb).trans e) f0 f1 f3 f4 f5, rfl, q⟩⟩⟩
/-- name = {..} on one line, the name a local -/
theorem ps_setDx (DK : DKind P w o0 st) (hP : X.prog = P) (hw : X.w = w) (hu : X.A.units + 9 < cLine) (calm : X.calm = true) (nd : X.N.Nodup) (hy : X.N[i]? = some y) (hyl : X.env.scope.names.lookup y = some .local)
    (sw : swapsWith (.DictComp kx vx [⟨tg, iter, ifs, 0⟩] scope pos) (some (.Name y py)) spos.line X.env = pure true) (hi : PI X tg iter wi) (ok : BlkOk X.N X.env.scope scope own) (pt : DParts X scope tg ifs kx vx g tt tk tv) (hs : ∀ x, foldedSetIterable iter X.env x = pure x) :
    PS X (.Assign [.Name y py] (.DictComp kx vx [⟨tg, iter, ifs, 0⟩] scope pos) spos) (tAsg (tDx o0 st wi g tt tk tv (own.map (·.2))) (gName i)) := ⟨fun pins s σ H D I h => by
  rw [exec_Assign_Name_used _ _ _ _ sw]
  refine wpAny_bind (wpAny_standAt (wpAny_bind ?_))
  show wpAny _ X.A (comprehension (.DictComp kx vx [⟨tg, iter, ifs, 0⟩] scope pos) scope X.env (firstIterPos [⟨tg, iter, ifs, 0⟩] pos) newDict false (eval iter X.env) (some (assign (.Name y py) X.env)) >>= fun _ => pure ()) _ _ s
  have h : tDx o0 st wi g tt tk tv (own.map (·.2)) σ H (fun x H1 => gName i x σ H1 D.nx) := h
  refine wpAny_bind (thn (dx_core DK (Qf := fun _ s' => SP X pins D .next s') hP hw hu calm nd I hi ok pt hs h fun L C s' m H' I' q hn ⟨f0, f1, _, f3, f4, f5⟩ => ?_) fun _ s' hq => wpAny_pure (wpAny_pure hq))
  show wpAny _ _ (assign (.Name y py) X.env (.ref L)) _ _ _
  refine wpAny_assign_Name (store_ok2 (v := V.ref L) I' nd hy (.inl hyl) rfl (fun s2 I2 ⟨a, sb, ha⟩ => ⟨m, hn.sameBut sb (ha.elim (fun z => by rw [z]; exact f1) fun z e => f4 y a z e.symm), fun h3 sb3 => ?_⟩) (.inr hyl))
  exact ⟨_, H', I2.turned (t' := s2.toks) (fun b o hb e => (sb3.2 b hb).trans e) f0 f1 f3 f4 f5, q⟩⟩
theorem sw_dict {gs : List Comprehension} {l : Nat} {env : Env} (hk : env.scope.kind = .function) (hy : env.scope.names.lookup y = some .local) (hl : (py.line == pos.line) = true)
    (ha : (scope.names.any fun (n, k) => n == y && (k == .local || k == .cell)) = false) : swapsWith (.DictComp kx vx gs scope pos) (some (.Name y py)) l env = pure true := by
  have e1 : (env.blockKind == .function) = true := by unfold Env.blockKind; rw [hk]; rfl
  have e2 : (env.kindOf y == some .local) = true := by rw [show env.kindOf y = some .local from hy]; rfl
  unfold swapsWith
  dsimp only
  simp only [e1, e2, ha, Expr.pos, hl]
  rfl
end
end
end Z
set_option Elab.async false
set_option linter.all false
set_option maxRecDepth 100000
set_option maxHeartbeats 2000000
/-! Z43: {k: v for .. if ..} for keys of both kinds, as a value and stored. -/
namespace Z
open PySem PySem.Spec L2
/-- a pair is laid into a new dict -/
abbrev PutO := O → D → D → Option O
def putOK : PutO
  | .dK kds, k, v => match asK k with
    | some kk => if kds.length < sizeLine then some (.dK (putD kds kk v)) else none
    | none => none
  | _, _, _ => none
def putOT : PutO
  | .dT kds, k, v => match asKs k with
    | some kk => if kds.length < sizeLine then some (.dT (putD kds kk v)) else none
    | none => none
  | _, _, _ => none
def putON : PutO
  | .dN kds, k, v => match keyN k with
    | some kk => if kds.length < sizeLine then some (.dN (putN kds kk k v)) else none
    | none => none
  | _, _, _ => none
def isDO : O → Bool
  | .dK _ => true
  | .dT _ => true
  | .dN _ => true
  | _ => false
structure PutLk (ca : Cn) (o0 : Addr → HO) (st : Hp → Addr → V → V → Hp → Prop) (a0 : O) (pt : PutO) : Prop where
  d0 : isDO a0 = true
  em : ∀ (μ : List Addr) (F H : Hp) (D : Addr), H D = some (o0 D) → OR ca μ F H D a0
  put : ∀ {μ : List Addr} {F H : Hp} {D : Addr} {acc acc' : O} {kd vd : Z.D} {y z : V}, Same F H → OR ca μ F H D acc → VR ca μ F y kd → VR ca μ F z vd → pt acc kd vd = some acc' → isDO acc' = true ∧ ∃ u, st H D y z (upd H D u) ∧ ∀ H', H' D = some u → OR ca μ F H' D acc'
theorem putLk_K {ca : Cn} : PutLk ca (fun _ => .dK []) stK (.dK []) putOK :=
  ⟨rfl, fun μ F H D e => ⟨[], e, rfl, .nil⟩, fun {μ F H D acc acc' kd vd y z} hF ho Vy Vz e => by
    unfold putOK at e
    split at e
    · rename_i kds
      split at e
      · rename_i kk ek
        split at e
        · rename_i hl
          cases e
          obtain ⟨kvs, q1, q2, q3⟩ := ho
          have ll : kvs.length = kds.length := by simpa using congrArg List.length q2
          obtain ⟨w1, w2⟩ := vr_put kk Vz q2 q3
          exact ⟨rfl, _, ⟨kvs, kk, asK_ok Vy ek, q1, ll ▸ hl, rfl⟩, fun H' q => ⟨_, q, w1, w2⟩⟩
        · cases e
      · cases e
    · cases e⟩
theorem putLk_T {ca : Cn} : PutLk ca (fun _ => .dT []) stT (.dT []) putOT :=
  ⟨rfl, fun μ F H D e => ⟨[], e, rfl, .nil⟩, fun {μ F H D acc acc' kd vd y z} hF ho Vy Vz e => by
    unfold putOT at e
    split at e
    · rename_i kds
      split at e
      · rename_i kk ek
        split at e
        · rename_i hl
          cases e
          obtain ⟨kvs, q1, q2, q3⟩ := ho
          have ll : kvs.length = kds.length := by simpa using congrArg List.length q2
          obtain ⟨w1, w2⟩ := vr_put kk Vz q2 q3
          cases Vy with
          | @tup b vs ds qb rb =>
            have eb := asKs_go rb ek
            exact ⟨rfl, _, ⟨kvs, kk, b, rfl, by rw [← eb]; exact hF _ _ qb, q1, ll ▸ hl, rfl⟩, fun H' q => ⟨_, q, w1, w2⟩⟩
          | _ => cases ek
        · cases e
      · cases e
    · cases e⟩
theorem putLk_N {ca : Cn} : PutLk ca (fun D => NDict ca.prog ca.w D []) (stN ca.prog ca.w) (.dN []) putON :=
  ⟨rfl, fun μ F H D e => ⟨[], e, rfl, (fun x hx => by cases hx), .nil, .nil⟩, fun {μ F H D acc acc' kd vd y z} hF ho Vy Vz e => by
    unfold putON at e
    split at e
    · rename_i kds
      split at e
      · rename_i kk ek
        split at e
        · rename_i hl
          cases e
          obtain ⟨xs, q1, q2, q3, q4, q5⟩ := ho
          have nr : NR ca μ F xs kds := ⟨q2, q3, q4, q5⟩
          obtain ⟨b', rfl, kb, k8, hk⟩ := keyN_ok hF Vy ek
          have nr2 := nr.put hk k8 Vy Vz
          exact ⟨rfl, _, ⟨xs, kk, b', rfl, kb, k8, q1, nr.key hF, nr.len ▸ hl, rfl⟩, fun H' q => ⟨_, q, nr2.k, nr2.d, nr2.a, nr2.v⟩⟩
        · cases e
      · cases e
    · cases e⟩
section
variable {ca : Cn} {X : Cx} {W : WF} {pos : Pos} {e a b c : Expr} {vs : List Nat}
open Classical in
noncomputable def dxGo (pt : PutO) (kp : Kp) (g : ET) (t : EB) (kx vx : ED) (b : Nat) (s : Sl) : List D → Own → O → Res R
  | [], h, acc => if kpOk kp h then .ok (.n acc) h else .stuck
  | d :: ds, h, acc => if kpOk kp h then
      match g d ⟨b, s⟩ h with
      | .next s1 h1 => match t ⟨b, s1⟩ h1 with
        | .ok true h2 => match kx ⟨b, s1⟩ h2 with
          | .ok y h3 => match vx ⟨b, s1⟩ h3 with
            | .ok z h4 => match pt acc y z with
              | some acc' => dxGo pt kp g t kx vx b s ds h4 acc'
              | none => .stuck
            | _ => .stuck
          | _ => .stuck
        | .ok false h2 => dxGo pt kp g t kx vx b s ds h2 acc
        | _ => .stuck
      | _ => .stuck
    else .stuck
noncomputable def eDx (pt : PutO) (a0 : O) (it : EI) (g : ET) (t : EB) (kx vx : ED) (vs : List Nat) : EX := fun τ h => (it τ h).bind fun p h1 => dxGo pt p.2 g t kx vx τ.b (Z.clr vs τ.s) p.1 h1 a0
theorem OR.here {μ : List Addr} {F H : Hp} {a : Addr} {o : O} (h : OR ca μ F H a o) (d : isDO o = true) : H a ≠ none := by
  cases o with
  | dK _ => obtain ⟨_, q, _⟩ := h; rw [q]; simp
  | dT _ => obtain ⟨_, q, _⟩ := h; rw [q]; simp
  | dN _ => obtain ⟨_, q, _⟩ := h; rw [q]; simp
  | _ => cases d
theorem dx_rd {o0 : Addr → HO} {st : Hp → Addr → V → V → Hp → Prop} {a0 : O} {pt : PutO} (PL : PutLk ca o0 st a0 pt) {wi : TI} {it : EI} {g : ET} {t : EB} {kx vx : ED} {σ : L2.St} {H : Hp} {Q : VK} (h : rdE ca W (eDx pt a0 it g t kx vx vs) σ H Q) : tDx o0 st (rdI ca W it) (rdGw ca vs g) (rdB ca W0 t) (rdD ca W0 kx) (rdD ca W0 vx) vs σ H Q := by
  obtain ⟨μ, F, τ, h, A, p⟩ := h
  refine ⟨μ, F, τ, h, A, ?_⟩
  unfold eDx at p
  cases hit : it τ h with
  | stuck => rw [hit] at p; exact p
  | exc c h1 => rw [hit] at p; exact p
  | ok pr h1 =>
    rw [hit] at p
    obtain ⟨ds, kp⟩ := pr
    intro μ1 F1 H1 E1 R1 hk J ok D hD
    have hk : kpOk kp h1 := hk
    have ok : ItOk ca ds kp J μ1 F1 H1 h1 := ok
    have p : PostG ca τ.b μ F H h (dxGo pt kp g t kx vx τ.b (Z.clr vs τ.s) ds h1 a0) (wx ca W σ) fun r μ1 F1 H1 _ => ∀ v, RR ca μ1 F1 H H1 v r → Q v H1 := p
    have hD0 : H D = none := E1.fresh hD
    have dF : F1 D = none := by
      cases q : F1 D with
      | none => rfl
      | some w => have := R1.fz _ _ q; rw [hD] at this; cases this
    have dM : D ∉ μ1 := fun z => R1.dom D z hD
    refine ⟨fun i m H2 => m = ds.length - i ∧ i ≤ ds.length ∧ ∃ μ2 F2 h2 acc, Ext τ.b μ F H h μ2 F2 H2 h2 ∧ Ext τ.b μ1 F1 H1 h1 μ2 F2 H2 h2 ∧ RelH ca μ2 F2 h2 H2 ∧ isDO acc = true ∧ OR ca μ2 F2 H2 D acc ∧ D ∉ μ2 ∧ F2 D = none ∧
      PostG ca τ.b μ F H h (dxGo pt kp g t kx vx τ.b (Z.clr vs τ.s) (ds.drop i) h2 acc) (wx ca W σ) fun r μ1 F1 H1 _ => ∀ v, RR ca μ1 F1 H H1 v r → Q v H1,
      ⟨ds.length, rfl, Nat.zero_le _, μ1, F1, h1, a0, E1.upd hD, Ext.refl.upd hD, R1.upd hD, PL.d0, PL.em _ _ _ _ upd_same, dM, dF, p⟩, ?_⟩
    rintro i m H2 ⟨rfl, hi, μ2, F2, h2, acc, E2, Eg, R2, dA, O2, nM, nF, w⟩
    have hkp : kpOk kp h2 := by
      cases hd : ds.drop i with
      | nil =>
        rw [hd, dxGo] at w
        by_cases z : kpOk kp h2
        · exact z
        · rw [if_neg z] at w; exact w.elim
      | cons d r =>
        rw [hd, dxGo] at w
        by_cases z : kpOk kp h2
        · exact z
        · rw [if_neg z] at w; exact w.elim
    obtain ⟨k1, k2⟩ := ok τ.b μ2 F2 h2 H2 Eg R2 hkp i
    by_cases hlt : i < ds.length
    · obtain ⟨go, yl⟩ := k1 hlt
      refine .inr ⟨go, fun H' => i + 1 ≤ ds.length ∧ ∃ μ2 F2 h2 acc, Ext τ.b μ F H h μ2 F2 H' h2 ∧ Ext τ.b μ1 F1 H1 h1 μ2 F2 H' h2 ∧ RelH ca μ2 F2 h2 H' ∧ isDO acc = true ∧ OR ca μ2 F2 H' D acc ∧ D ∉ μ2 ∧ F2 D = none ∧
          PostG ca τ.b μ F H h (dxGo pt kp g t kx vx τ.b (Z.clr vs τ.s) (ds.drop (i + 1)) h2 acc) (wx ca W σ) fun r μ1 F1 H1 _ => ∀ v, RR ca μ1 F1 H H1 v r → Q v H1,
        fun H' z => ⟨ds.length - (i + 1), by omega, rfl, z.1, z.2⟩, fun y H3 yy => ?_⟩
      obtain ⟨F3, d, ed, E3, R3, V3⟩ := yl y H3 yy
      have E3' := E3 τ.b
      -- what stays of the new dict through a step
      have stay : ∀ {μ4 : List Addr} {F4 H4 : Hp} {h4 : Own}, Ext τ.b μ2 F2 H2 h2 μ4 F4 H4 h4 → OR ca μ4 F4 H4 D acc ∧ D ∉ μ4 ∧ F4 D = none := fun {μ4 F4 H4 h4} E => by
        refine ⟨O2.mono E.ix E.fz fun o q => E.frame D _ q nM, fun z => ?_, ?_⟩
        · obtain ⟨m, e1, e2⟩ := E.pre
          rw [e1] at z
          rcases List.mem_append.mp z with z | z
          · exact nM z
          · exact O2.here dA (e2 D z)
        · cases q : F4 D with
          | none => rfl
          | some u =>
            rcases E.newF D (by rw [q]; simp) with z | z | z | ⟨_, z⟩ | ⟨_, z⟩
            · exact absurd nF z
            · exact absurd z nM
            · exact absurd z (O2.here dA)
            · exact (O2.noTup (fun y => by rw [y] at dA; cases dA) z).elim
            · exact (O2.noCode (fun y => by rw [y] at dA; cases dA) z).elim
      have hd : ds.drop i = d :: ds.drop (i + 1) := by
        rw [List.drop_eq_getElem_cons hlt]
        congr 1
        exact Option.some.inj ((List.getElem?_eq_getElem hlt).symm.trans ed)
      rw [hd, dxGo, if_pos hkp] at w
      have hbl : τ.b ≤ h2.length := Nat.le_trans A.bl (E2.len A.rel R2)
      have S3 : SR ca μ2 F3 (Z.clr vs τ.s) (L2.wipe σ vs) := SR.wipe (E3'.sr (E2.sr A.sl)) vs
      cases hgd : g d ⟨τ.b, Z.clr vs τ.s⟩ h2 with
      | next s4 h4 =>
        rw [hgd] at w
        dsimp only at w
        refine ⟨μ2, F3, ⟨τ.b, Z.clr vs τ.s⟩, h2, d, ⟨R3, S3, hbl⟩, V3, s4, h4, hgd, fun μ4 F4 H4 σ4 E4 R4 S4 w4 => ⟨?_, ?_⟩⟩
        · rw [w4]
          apply List.ext_getElem?
          intro j
          rw [wipe_get, wipe_get, wipe_length]
          by_cases hj : j ∈ vs ∧ j < σ.length
          · rw [if_pos hj, if_pos hj]
          · rw [if_neg hj, if_neg hj]
        · have bl4 : τ.b ≤ h4.length := Nat.le_trans hbl (E4.len R3 R4)
          refine ⟨μ4, F4, ⟨τ.b, s4⟩, h4, ⟨R4, S4, bl4⟩, ?_⟩
          cases ht : t ⟨τ.b, s4⟩ h4 with
          | stuck => rw [ht] at w; exact w.elim
          | exc c h5 => rw [ht] at w; exact w.elim
          | ok k h5 =>
            rw [ht] at w
            intro μ5 F5 H5 E5 R5
            have bl5 : τ.b ≤ h5.length := Nat.le_trans bl4 (E5.len R4 R5)
            cases k with
            | false =>
              dsimp only at w
              obtain ⟨z1, z2, z3⟩ := stay (E3'.trans (E4.trans E5))
              exact ⟨hlt, μ5, F5, h5, acc, E2.trans (E3'.trans (E4.trans E5)), Eg.trans (E3'.trans (E4.trans E5)), R5, dA, z1, z2, z3, w⟩
            | true =>
              dsimp only at w
              show rdD ca W0 kx σ4 H5 _
              refine ⟨μ5, F5, ⟨τ.b, s4⟩, h5, ⟨R5, E5.sr S4, bl5⟩, ?_⟩
              cases hx : kx ⟨τ.b, s4⟩ h5 with
              | stuck => rw [hx] at w; exact w.elim
              | exc c h6 => rw [hx] at w; exact w.elim
              | ok y6 h6 =>
                rw [hx] at w
                dsimp only at w
                intro μ6 F6 H6 E6 R6 v6 V6
                have bl6 : τ.b ≤ h6.length := Nat.le_trans bl5 (E6.len R5 R6)
                show rdD ca W0 vx σ4 H6 _
                refine ⟨μ6, F6, ⟨τ.b, s4⟩, h6, ⟨R6, E6.sr (E5.sr S4), bl6⟩, ?_⟩
                cases hy : vx ⟨τ.b, s4⟩ h6 with
                | stuck => rw [hy] at w; exact w.elim
                | exc c h7 => rw [hy] at w; exact w.elim
                | ok z7 h7 =>
                  rw [hy] at w
                  dsimp only at w
                  cases ek : pt acc y6 z7 with
                  | none => rw [ek] at w; exact w.elim
                  | some acc' =>
                    rw [ek] at w
                    dsimp only at w
                    intro μ7 F7 H7 E7 R7 v7 V7
                    have Ea := E3'.trans (E4.trans (E5.trans (E6.trans E7)))
                    obtain ⟨z1, z2, z3⟩ := stay Ea
                    obtain ⟨d', u, hst, hu⟩ := PL.put R7.fz z1 (E7.vr V6) V7 ek
                    exact ⟨_, hst, hlt, μ7, F7, h7, acc', (E2.trans Ea).updFree hD0, (Eg.trans Ea).updFree hD, R7.updFree z2 z3, d', hu _ upd_same, z2, z3, w⟩
      | _ => rw [hgd] at w; exact w.elim
    · refine .inl ⟨k2 (by omega), ?_⟩
      rw [List.drop_eq_nil_of_le (by omega), dxGo, if_pos hkp] at w
      exact w μ2 F2 H2 E2 R2 (.ref D) ⟨D, rfl, hD0, O2.here dA, nM, nF, O2⟩
section
variable {o0 : Addr → HO} {st : Hp → Addr → V → V → Hp → Prop} {a0 : O} {pt : PutO} {kx vx tg iter : Expr} {ifs : List Expr} {scope : Scope} {own : List (Str × Nat)} {it : EI} {g : ET} {t : EB} {xk xv : ED} {i : Nat} {y : Str} {py spos : Pos}
structure DPartsZ (ca : Cn) (X : Cx) (scope : Scope) (vs : List Nat) (tg : Expr) (ifs : List Expr) (kx vx : Expr) (g : ET) (t : EB) (xk xv : ED) : Prop where
  tg : ∀ (s : Shared) (H : Hp) (C : Addr) (cl : List (Str × Addr)) (fp : List Addr), SGw ca (X.blk s H scope (compEnvC scope cl C X.env) fp) vs tg g
  ts : ∀ (s : Shared) (H : Hp) (C : Addr) (cl : List (Str × Addr)) (fp : List Addr), STs ca (X.blk s H scope (compEnvC scope cl C X.env) fp) ifs t
  ky : ∀ (s : Shared) (H : Hp) (C : Addr) (cl : List (Str × Addr)) (fp : List Addr), SD ca (X.blk s H scope (compEnvC scope cl C X.env) fp) W0 kx xk
  vl : ∀ (s : Shared) (H : Hp) (C : Addr) (cl : List (Str × Addr)) (fp : List Addr), SD ca (X.blk s H scope (compEnvC scope cl C X.env) fp) W0 vx xv
theorem se_dx (DK : DKind X.prog X.w o0 st) (PL : PutLk ca o0 st a0 pt) (hu : X.A.units + 9 < cLine) (hc : X.calm = true) (hN : X.N.Nodup) (hi : SI ca X W tg iter it) (ok : BlkOk X.N X.env.scope scope own) (pz : DPartsZ ca X scope (own.map (·.2)) tg ifs kx vx g t xk xv) (hs : ∀ x, foldedSetIterable iter X.env x = pure x) :
    SE ca X W (.DictComp kx vx [⟨tg, iter, ifs, 0⟩] scope pos) (eDx pt a0 it g t xk xv (own.map (·.2))) := PE.imp (pe_dx DK rfl rfl hu hc hN hi ok ⟨pz.tg, pz.ts, pz.ky, pz.vl⟩ hs) fun σ H Q h => dx_rd PL (wi := rdI ca W it) h
theorem ss_setDx (DK : DKind X.prog X.w o0 st) (PL : PutLk ca o0 st a0 pt) (hu : X.A.units + 9 < cLine) (hc : X.calm = true) (hN : X.N.Nodup) (hy : X.N[i]? = some y) (hyl : X.env.scope.names.lookup y = some .local)
    (sw : swapsWith (.DictComp kx vx [⟨tg, iter, ifs, 0⟩] scope pos) (some (.Name y py)) spos.line X.env = pure true) (hi : SI ca X W tg iter it) (ok : BlkOk X.N X.env.scope scope own) (pz : DPartsZ ca X scope (own.map (·.2)) tg ifs kx vx g t xk xv) (hs : ∀ x, foldedSetIterable iter X.env x = pure x) :
    SS ca X W (.Assign [.Name y py] (.DictComp kx vx [⟨tg, iter, ifs, 0⟩] scope pos) spos) (sSet i (ed (eDx pt a0 it g t xk xv (own.map (·.2))))) :=
  PS.imp (ps_setDx DK rfl rfl hu hc hN hy hyl sw hi ok ⟨pz.tg, pz.ts, pz.ky, pz.vl⟩ hs) fun D σ H ⟨μ, F, τ, h, A, p⟩ => dx_rd PL (W := W) (wi := rdI ca W it) ⟨μ, F, τ, h, A, frz_post (set_post A p)⟩
theorem ss_newDx (DK : DKind X.prog X.w o0 st) (PL : PutLk ca o0 st a0 pt) (hu : X.A.units + 9 < cLine) (hc : X.calm = true) (hN : X.N.Nodup) (hy : X.N[i]? = some y) (hyl : X.env.scope.names.lookup y = some .local)
    (sw : swapsWith (.DictComp kx vx [⟨tg, iter, ifs, 0⟩] scope pos) (some (.Name y py)) spos.line X.env = pure true) (hi : SI ca X W tg iter it) (ok : BlkOk X.N X.env.scope scope own) (pz : DPartsZ ca X scope (own.map (·.2)) tg ifs kx vx g t xk xv) (hs : ∀ x, foldedSetIterable iter X.env x = pure x) :
    SS ca X W (.Assign [.Name y py] (.DictComp kx vx [⟨tg, iter, ifs, 0⟩] scope pos) spos) (sSet i (eAl (eDx pt a0 it g t xk xv (own.map (·.2))))) :=
  PS.imp (ps_setDx DK rfl rfl hu hc hN hy hyl sw hi ok ⟨pz.tg, pz.ts, pz.ky, pz.vl⟩ hs) fun D σ H ⟨μ, F, τ, h, A, p⟩ => dx_rd PL (W := W) (wi := rdI ca W it) ⟨μ, F, τ, h, A, al_post A.rel A.bl (set_post A p)⟩
end
/-- pure: what such a comprehension gives -/
theorem dx_pure {α : Type} {pt : PutO} {kp : Kp} {g : ET} {t : EB} {kx vx : ED} {b : Nat} {s : Sl} {h : Own} (item : α → D) (p : α → Bool) (ky vl : α → D) (hk : kpOk kp h) : ∀ (as : List α) (acc acc' : O),
    (∀ a ∈ as, ∃ s1, g (item a) ⟨b, s⟩ h = .next s1 h ∧ t ⟨b, s1⟩ h = .ok (p a) h ∧ (p a = true → kx ⟨b, s1⟩ h = .ok (ky a) h ∧ vx ⟨b, s1⟩ h = .ok (vl a) h)) →
    (as.filter p).foldlM (fun acc a => pt acc (ky a) (vl a)) acc = some acc' → dxGo pt kp g t kx vx b s (as.map item) h acc = .ok (.n acc') h
  | [], acc, acc', _, e => by
    cases e
    unfold dxGo
    rw [List.map_nil]
    exact if_pos hk
  | a :: as, acc, acc', hs, e => by
    obtain ⟨s1, e1, e2, e3⟩ := hs a List.mem_cons_self
    unfold dxGo
    simp only [List.map_cons]
    rw [if_pos hk, e1]
    dsimp only
    rw [e2]
    have ih := dx_pure (pt := pt) (g := g) (t := t) (kx := kx) (vx := vx) (b := b) (s := s) item p ky vl hk as
    cases hp : p a with
    | false =>
      dsimp only
      rw [List.filter_cons_of_neg (by simp [hp])] at e
      exact ih acc acc' (fun x hx => hs x (List.mem_cons_of_mem _ hx)) e
    | true =>
      obtain ⟨w1, w2⟩ := e3 hp
      dsimp only
      rw [w1]
      dsimp only
      rw [w2]
      dsimp only
      rw [List.filter_cons_of_pos hp, List.foldlM_cons] at e
      cases q : pt acc (ky a) (vl a) with
      | none => rw [q] at e; cases e
      | some o1 =>
        rw [q] at e
        dsimp only
        exact ih o1 acc' (fun x hx => hs x (List.mem_cons_of_mem _ hx)) e
end
end Z
set_option Elab.async false
set_option linter.all false
set_option maxRecDepth 100000
set_option maxHeartbeats 2000000
/-! Z44: t < u of tuples of any depth, their places bints. -/
namespace Z
open PySem PySem.Spec L2
/-- may be put in order -/
def cmpb : Nat → PyData → PyData → Bool
  | 0, .int _, .int _ => true
  | 0, _, _ => false
  | _ + 1, .int _, .int _ => true
  | k + 1, .tuple ps, .tuple qs => (ps.zip qs).all fun z => PyData.eqv z.1 z.2 || cmpb k z.1 z.2
  | _ + 1, _, _ => false
def ltb : Nat → PyData → PyData → Bool
  | 0, .int i, .int j => decide (i < j)
  | 0, _, _ => false
  | _ + 1, .int i, .int j => decide (i < j)
  | k + 1, .tuple ps, .tuple qs => Ob.lexAt (fun j => PyData.eqv (ps.getD j .none) (qs.getD j .none)) (fun j => ltb k (ps.getD j .none) (qs.getD j .none)) (decide (ps.length < qs.length)) 0 (min ps.length qs.length)
  | _ + 1, _, _ => false
theorem layAll_mem : ∀ {ps : List PyData} {p : PyData}, PyData.canLayAll0 ps = true → p ∈ ps → p.canLay0 = true
  | [], _, _, h => by cases h
  | q :: ps, p, e, h => by
    rw [PyData.canLayAll0, Bool.and_eq_true] at e
    rcases List.mem_cons.mp h with rfl | h
    · exact e.1
    · exact layAll_mem e.2 h
theorem depthAll_mem : ∀ {ps : List PyData} {p : PyData}, p ∈ ps → p.depth ≤ PyData.depthAll ps
  | [], _, h => by cases h
  | q :: ps, p, h => by
    rw [PyData.depthAll]
    rcases List.mem_cons.mp h with rfl | h
    · omega
    · have := depthAll_mem h
      omega
theorem dpAll_at {K : PySem.W.Frag} {H : Hp} : ∀ {xs : List V} {ps : List PyData} {j : Nat} {p : PyData}, DpAll K H xs ps → ps[j]? = some p → ∃ x, xs[j]? = some x ∧ Dp K H x p
  | _, _, _, _, .nil, e => by simp at e
  | _, _, 0, _, .cons h _, e => by simp at e; subst e; exact ⟨_, rfl, h⟩
  | _, _, j + 1, p, .cons _ t, e => by
    obtain ⟨x, a, b⟩ := dpAll_at (j := j) (p := p) t (by simpa using e)
    exact ⟨x, by simpa using a, b⟩
theorem dpAll_len {K : PySem.W.Frag} {H : Hp} : ∀ {xs : List V} {ps : List PyData}, DpAll K H xs ps → xs.length = ps.length
  | _, _, .nil => rfl
  | _, _, .cons _ t => congrArg (· + 1) (dpAll_len t)
theorem vals_at : ∀ {xs : List V} {us : List Value} {j : Nat} {x : V}, Vals xs us → xs[j]? = some x → ∃ u, us[j]? = some u ∧ RelV x u
  | _, _, _, _, .nil, e => by simp at e
  | _, _, 0, _, .cons h _, e => by simp at e; subst e; exact ⟨_, rfl, h⟩
  | _, _, j + 1, x, .cons _ t, e => by
    obtain ⟨u, a, b⟩ := vals_at (j := j) (x := x) t (by simpa using e)
    exact ⟨u, by simpa using a, b⟩
section
variable {X : Cx} {pins : List (Addr × Obj)} {σ : L2.St} {H : Hp} {s : Shared}
theorem rc_lt (I : Inv X pins σ H s) (k : Nat) : ∀ (A : Around) (p q : PyData) (x y : V) (v u : Value), A.units + k + 10 < cLine → p.canLay0 = true → q.canLay0 = true → p.depth ≤ 8 → cmpb k p q = true → Dp X.K H x p → Dp X.K H y q → RelV x v → RelV y u → Ob.RcOp .Lt A s v u (ltb k p q) := by
  have bints : ∀ (k : Nat) (A : Around) (i j : Int) (x y : V) (v u : Value), Dp X.K H x (.int i) → Dp X.K H y (.int j) → RelV x v → RelV y u → Ob.RcOp .Lt A s v u (ltb k (.int i) (.int j)) := by
    intro k A i j x y v u hx hy rx ry
    cases hx
    cases hy
    obtain ⟨t, rfl⟩ := rx
    obtain ⟨t', rfl⟩ := ry
    have : ltb k (.int i) (.int j) = decide (i < j) := by cases k <;> rfl
    rw [this]
    exact Ob.RcOp.lt_int _ _ _ _
  induction k with
  | zero =>
    intro A p q x y v u _ _ _ _ c hx hy rx ry
    cases p <;> cases q <;> first | exact bints _ _ _ _ _ _ _ _ hx hy rx ry | cases c
  | succ k ih =>
    intro A p q x y v u hu lp lq dp c hx hy rx ry
    cases p <;> cases q <;> first | exact bints _ _ _ _ _ _ _ _ hx hy rx ry | (cases c; done) | skip
    rename_i ps qs
    have lp' : PyData.canLayAll0 ps = true := by rw [PyData.canLay0] at lp; exact lp
    have lq' : PyData.canLayAll0 qs = true := by rw [PyData.canLay0] at lq; exact lq
    have dp' : ∀ p ∈ ps, p.depth ≤ 7 := fun p hp => by
      rw [PyData.depth] at dp
      have := depthAll_mem hp
      omega
    have c' : ((ps.zip qs).all fun z => PyData.eqv z.1 z.2 || cmpb k z.1 z.2) = true := c
    clear lp lq dp c
    cases hx with
    | @tup a xs _ hs ha =>
    cases hy with
    | @tup b ys _ hs2 hb =>
    cases rx
    cases ry
    obtain ⟨its, r1, p1, _⟩ := I.tuple hs
    obtain ⟨its2, r2, p2, _⟩ := I.tuple hs2
    have l1 : its.length = ps.length := by rw [← dpAll_len ha]; exact (Vals.length r1).symm
    have l2 : its2.length = qs.length := by rw [← dpAll_len hb]; exact (Vals.length r2).symm
    have key : ∀ j (h1 : j < its.toArray.size) (h2 : j < its2.toArray.size), ∃ x y, Dp X.K H x (ps.getD j .none) ∧ Dp X.K H y (qs.getD j .none) ∧ RelV x its.toArray[j] ∧ RelV y its2.toArray[j] ∧ (ps.getD j .none).canLay0 = true ∧ (qs.getD j .none).canLay0 = true ∧ (ps.getD j .none).depth ≤ 7 ∧ (PyData.eqv (ps.getD j .none) (qs.getD j .none) = false → cmpb k (ps.getD j .none) (qs.getD j .none) = true) := by
      intro j h1 h2
      simp at h1 h2
      have g1 : ps[j]? = some (ps.getD j .none) := by rw [List.getD_eq_getElem?_getD, List.getElem?_eq_getElem (by omega)]; rfl
      have g2 : qs[j]? = some (qs.getD j .none) := by rw [List.getD_eq_getElem?_getD, List.getElem?_eq_getElem (by omega)]; rfl
      generalize ps.getD j .none = p at *
      generalize qs.getD j .none = q at *
      obtain ⟨x, e1, d1⟩ := dpAll_at ha g1
      obtain ⟨y, e2, d2⟩ := dpAll_at hb g2
      obtain ⟨v, e3, w1⟩ := vals_at r1 e1
      obtain ⟨u, e4, w2⟩ := vals_at r2 e2
      have e5 : v = its.toArray[j] := by simpa [List.getElem?_eq_getElem h1] using e3.symm
      have e6 : u = its2.toArray[j] := by simpa [List.getElem?_eq_getElem h2] using e4.symm
      have m1 := List.mem_of_getElem? g1
      have m2 := List.mem_of_getElem? g2
      refine ⟨x, y, d1, d2, e5 ▸ w1, e6 ▸ w2, layAll_mem lp' m1, layAll_mem lq' m2, dp' _ m1, fun ne => ?_⟩
      rw [List.all_eq_true] at c'
      have := c' (p, q) (List.mem_of_getElem? (i := j) (by rw [List.getElem?_zip_eq_some]; exact ⟨g1, g2⟩))
      simpa [ne] using this
    have res := Ob.RcOp.tuples_lt (A := A) (s := s) (e := fun j => PyData.eqv (ps.getD j .none) (qs.getD j .none)) (r := fun j => ltb k (ps.getD j .none) (qs.getD j .none)) p1 p2 (by omega) (fun j h1 h2 => by
      obtain ⟨x, y, d1, d2, w1, w2, c1, c2, c3, c4⟩ := key j h1 h2
      obtain ⟨as, q1⟩ := Dp.reads I _ _ _ d1 w1
      obtain ⟨bs, q2⟩ := Dp.reads I _ _ _ d2 w2
      refine SeqAt.eqAt_reads _ _ _ _ _ _ _ _ q1 q2 c1 c2 ?_
      show A.units + 1 + _ < cLine
      have := Nat.min_le_left (ps.getD j .none).depth (qs.getD j .none).depth
      omega) (fun j h1 h2 ne => by
      obtain ⟨x, y, d1, d2, w1, w2, c1, c2, c3, c4⟩ := key j h1 h2
      refine ih A.in1 _ _ x y _ _ ?_ c1 c2 (by omega) (c4 ne) d1 d2 w1 w2
      show A.units + 1 + k + 10 < cLine
      omega)
    rw [List.size_toArray, List.size_toArray, l1, l2] at res
    exact res
end
section
variable {X : Cx} {ca : Cn}
def rLtN (K : PySem.W.Frag) : R2 := fun x y H Q => ∃ d e, Dp K H x d ∧ Dp K H y e ∧ d.canLay0 = true ∧ e.canLay0 = true ∧ d.depth ≤ 8 ∧ cmpb 8 d e = true ∧ Q (.bl (ltb 8 d e)) H
theorem op_ltN (hu : X.A.units + 64 < cLine) : OpR X (compareOp .Lt) (rLtN X.K) := by
  intro pins s σ H x y v u Q I rx ry h
  obtain ⟨d, e, hd, he, ld, le, dd, c, q⟩ := h
  have R := rc_lt I 8 X.A d e x y v u (by omega) ld le dd c hd he rx ry
  have z : wpAny (model X.prog X.w) X.A (compareOp .Lt v u) (EP X pins σ Q) X.xe s := R X.prog X.w X.xe (EP X pins σ Q) ⟨.bl _, H, I, rfl, q⟩
  exact z
def fLtN : F2 := fun x y h => match toP 8 x, toP 8 y with
  | some p, some q => if cmpb 8 p q = true then .ok (.v (.bl (ltb 8 p q))) h else .stuck
  | _, _ => .stuck
theorem lk_ltN {K : PySem.W.Frag} : Lk2 ca fLtN (rLtN K) := by
  intro b μ F H h Wx x y c d Q R V1 V2 _ p
  unfold fLtN at p
  cases e1 : toP 8 c with
  | none => simp only [e1] at p; exact p.elim
  | some u =>
    cases e2 : toP 8 d with
    | none => simp only [e1, e2] at p; exact p.elim
    | some w =>
      simp only [e1, e2] at p
      by_cases hc : cmpb 8 u w = true
      · rw [if_pos hc] at p
        obtain ⟨a1, a2⟩ := shape_ok 8 c u e1
        obtain ⟨b1, b2⟩ := shape_ok 8 d w e2
        exact ⟨u, w, dp_ok R.fz 8 _ _ _ V1 e1, dp_ok R.fz 8 _ _ _ V2 e2, a1, b1, a2, hc, p.ok R _ (.bl _)⟩
      · rw [if_neg hc] at p; exact p.elim
def fLtA : F2 := orF fLt fLtN
theorem op_ltA (hu : X.A.units + 64 < cLine) : OpR X (compareOp .Lt) (fun x y H Q => rI0 (fun i j => .bl (decide (i < j))) x y H Q ∨ rLtN X.K x y H Q) := op_lt.or (op_ltN hu)
theorem lk_ltA {K : PySem.W.Frag} : Lk2 ca fLtA (fun x y H Q => rI0 (fun i j => .bl (decide (i < j))) x y H Q ∨ rLtN K x y H Q) := lk_lt.or lk_ltN
@[simp] theorem fLtA_ii {i j : Int} {h : Own} : fLtA (.int i) (.int j) h = .ok (.v (.bl (decide (i < j)))) h := rfl
end
end Z
set_option Elab.async false
set_option linter.all false
set_option maxRecDepth 100000
/-! C1: closures by worklists; breadth first search: plain. -/
namespace CL
section
variable {α : Type} [DecidableEq α]
/-- what is reached from I by sc -/
inductive Re (sc : α → List α) (I : List α) : α → Prop
  | base {x : α} (h : x ∈ I) : Re sc I x
  | step {x y : α} (h : Re sc I x) (m : y ∈ sc x) : Re sc I y
theorem Re.least {sc : α → List α} {I : List α} {S : List α} (h0 : ∀ x ∈ I, x ∈ S) (h1 : ∀ x ∈ S, ∀ y ∈ sc x, y ∈ S) {x : α} (h : Re sc I x) : x ∈ S := by
  induction h with
  | base h => exact h0 _ h
  | step _ m ih => exact h1 _ ih _ m
theorem nodup_len : ∀ {l U : List α}, l.Nodup → (∀ x ∈ l, x ∈ U) → l.length ≤ U.length
  | [], _, _, _ => Nat.zero_le _
  | a :: l, U, nd, hs => by
    obtain ⟨h1, h2⟩ := List.nodup_cons.mp nd
    have ha := hs a List.mem_cons_self
    have ih := nodup_len (l := l) (U := U.erase a) h2 fun x hx => by
      have : x ≠ a := fun e => h1 (e ▸ hx)
      exact (List.mem_erase_of_ne this).mpr (hs x (List.mem_cons_of_mem _ hx))
    have := List.length_erase_of_mem ha
    have h0 : 0 < U.length := List.length_pos_of_mem ha
    rw [List.length_cons]
    omega
theorem perm_of {l m : List α} (h1 : l.Nodup) (h2 : m.Nodup) (h : ∀ x, x ∈ l ↔ x ∈ m) : l.Perm m := by
  rw [List.perm_iff_count]
  intro a
  have c1 := h1.count (a := a)
  have c2 := h2.count (a := a)
  rw [c1, c2]
  simp [h a]
/-! a worklist that marks what it lays down -/
def push (st : List α × List α) (q : α) : List α × List α := if q ∈ st.1 then st else (st.1 ++ [q], st.2 ++ [q])
def pushes (st : List α × List α) (qs : List α) : List α × List α := qs.foldl push st
structure Pu (st st' : List α × List α) (qs : List α) : Prop where
  f : ∃ l, st'.1 = st.1 ++ l ∧ st'.2 = st.2 ++ l ∧ ∀ x ∈ l, x ∈ qs
  q : ∀ x ∈ qs, x ∈ st'.1
  n : st.1.Nodup → st'.1.Nodup
theorem pushes_ok : ∀ (qs : List α) (st : List α × List α), Pu st (pushes st qs) qs
  | [], st => ⟨⟨[], by simp [pushes]⟩, (fun x hx => by cases hx), fun h => h⟩
  | q :: qs, st => by
    have ih := pushes_ok qs (push st q)
    obtain ⟨⟨l, e1, e2, e3⟩, h2, h3⟩ := ih
    have e0 : pushes st (q :: qs) = pushes (push st q) qs := rfl
    rw [e0]
    by_cases hq : q ∈ st.1
    · have ep : push st q = st := if_pos hq
      rw [ep] at e1 e2 h3 h2 ⊢
      refine ⟨⟨l, e1, e2, fun x hx => List.mem_cons_of_mem _ (e3 x hx)⟩, fun x hx => ?_, h3⟩
      rcases List.mem_cons.mp hx with rfl | hx
      · rw [e1]; exact List.mem_append_left _ hq
      · exact h2 x hx
    · have ep : push st q = (st.1 ++ [q], st.2 ++ [q]) := if_neg hq
      rw [ep] at e1 e2 h3 h2 ⊢
      refine ⟨⟨q :: l, by rw [e1]; simp, by rw [e2]; simp, fun x hx => ?_⟩, fun x hx => ?_, fun nd => h3 ?_⟩
      · rcases List.mem_cons.mp hx with rfl | hx
        · exact List.mem_cons_self
        · exact List.mem_cons_of_mem _ (e3 x hx)
      · rcases List.mem_cons.mp hx with rfl | hx
        · rw [e1]; simp
        · exact h2 x hx
      · show (st.1 ++ [q]).Nodup
        rw [List.nodup_append]
        exact ⟨nd, by simp, fun a ha b hb => by rw [List.mem_singleton.mp hb]; rintro rfl; exact hq ha⟩
/-- the state of a search that marks what it lays down -/
structure Wk (sc : α → List α) (I : List α) (fd wt : List α) : Prop where
  nd : fd.Nodup
  ini : ∀ x ∈ I, x ∈ fd
  sub : ∀ x ∈ wt, x ∈ fd
  re : ∀ x ∈ fd, Re sc I x
  cl : ∀ x ∈ fd, x ∉ wt → ∀ y ∈ sc x, y ∈ fd
theorem Wk.pop {sc : α → List α} {I fd wt : List α} {p : α} (w : Wk sc I fd (wt ++ [p])) : Wk sc I (pushes (fd, wt) (sc p)).1 (pushes (fd, wt) (sc p)).2 ∧
    (pushes (fd, wt) (sc p)).2.length + 2 * fd.length ≤ wt.length + fd.length + (pushes (fd, wt) (sc p)).1.length := by
  obtain ⟨⟨l, e1, e2, e3⟩, h2, h3⟩ := pushes_ok (sc p) (fd, wt)
  have hp : p ∈ fd := w.sub p (by simp)
  dsimp only at e1 e2 h3
  constructor
  · refine ⟨h3 w.nd, fun x hx => ?_, fun x hx => ?_, fun x hx => ?_, fun x hx hn y hy => ?_⟩
    · rw [e1]; exact List.mem_append_left _ (w.ini x hx)
    · rw [e2] at hx
      rw [e1]
      rcases List.mem_append.mp hx with hx | hx
      · exact List.mem_append_left _ (w.sub x (List.mem_append_left _ hx))
      · exact List.mem_append_right _ hx
    · rw [e1] at hx
      rcases List.mem_append.mp hx with hx | hx
      · exact w.re x hx
      · exact .step (w.re p hp) (e3 x hx)
    · by_cases e : x = p
      · subst e; exact h2 y hy
      · rw [e1] at hx
        rw [e2] at hn
        rcases List.mem_append.mp hx with hx | hx
        · rw [e1]
          refine List.mem_append_left _ (w.cl x hx (fun z => ?_) y hy)
          rcases List.mem_append.mp z with z | z
          · exact hn (List.mem_append_left _ z)
          · exact e (List.mem_singleton.mp z)
        · exact absurd (List.mem_append_right _ hx) hn
  · rw [e1, e2]
    simp
    omega
theorem Wk.init {sc : α → List α} {I fd : List α} (nd : fd.Nodup) (h : ∀ x, x ∈ fd ↔ x ∈ I) : Wk sc I fd fd :=
  ⟨nd, fun x hx => (h x).mpr hx, fun x hx => hx, fun x hx => .base ((h x).mp hx), fun x hx hn => absurd hx hn⟩
theorem Wk.done {sc : α → List α} {I fd : List α} (w : Wk sc I fd []) : ∀ x, x ∈ fd ↔ Re sc I x :=
  fun x => ⟨w.re x, fun h => h.least w.ini fun x hx y hy => w.cl x hx List.not_mem_nil y hy⟩
/-! .. and one that marks what it takes up -/
structure Wl (sc : α → List α) (I : List α) (fd wt : List α) : Prop where
  nd : fd.Nodup
  ini : ∀ x ∈ I, x ∈ fd ∨ x ∈ wt
  re : ∀ x ∈ fd, Re sc I x
  rw : ∀ x ∈ wt, Re sc I x
  cl : ∀ x ∈ fd, ∀ y ∈ sc x, y ∈ fd ∨ y ∈ wt
theorem Wl.old {sc : α → List α} {I fd wt : List α} {p : α} (w : Wl sc I fd (wt ++ [p])) (hp : p ∈ fd) : Wl sc I fd wt := by
  have drop : ∀ {x}, x ∈ fd ∨ x ∈ wt ++ [p] → x ∈ fd ∨ x ∈ wt := fun h => by
    rcases h with h | h
    · exact .inl h
    · rcases List.mem_append.mp h with h | h
      · exact .inr h
      · rw [List.mem_singleton.mp h]; exact .inl hp
  exact ⟨w.nd, fun x hx => drop (w.ini x hx), w.re, fun x hx => w.rw x (List.mem_append_left _ hx), fun x hx y hy => drop (w.cl x hx y hy)⟩
theorem Wl.new {sc : α → List α} {I fd wt : List α} {p : α} (w : Wl sc I fd (wt ++ [p])) (hp : p ∉ fd) : Wl sc I (fd ++ [p]) (wt ++ sc p) := by
  have drop : ∀ {x}, x ∈ fd ∨ x ∈ wt ++ [p] → x ∈ fd ++ [p] ∨ x ∈ wt ++ sc p := fun h => by
    rcases h with h | h
    · exact .inl (List.mem_append_left _ h)
    · rcases List.mem_append.mp h with h | h
      · exact .inr (List.mem_append_left _ h)
      · exact .inl (List.mem_append_right _ h)
  refine ⟨?_, fun x hx => drop (w.ini x hx), fun x hx => ?_, fun x hx => ?_, fun x hx y hy => ?_⟩
  · rw [List.nodup_append]
    exact ⟨w.nd, by simp, fun a ha b hb => by rw [List.mem_singleton.mp hb]; rintro rfl; exact hp ha⟩
  · rcases List.mem_append.mp hx with hx | hx
    · exact w.re x hx
    · rw [List.mem_singleton.mp hx]; exact w.rw p (by simp)
  · rcases List.mem_append.mp hx with hx | hx
    · exact w.rw x (List.mem_append_left _ hx)
    · exact .step (w.rw p (by simp)) hx
  · rcases List.mem_append.mp hx with hx | hx
    · exact drop (w.cl x hx y hy)
    · rw [List.mem_singleton.mp hx] at hy; exact .inr (List.mem_append_right _ hy)
theorem Wl.init {sc : α → List α} {I : List α} : Wl sc I [] I :=
  ⟨List.nodup_nil, fun x hx => .inr hx, (fun x hx => by cases hx), fun x hx => .base hx, fun x hx => by cases hx⟩
theorem Wl.done {sc : α → List α} {I fd : List α} (w : Wl sc I fd []) : ∀ x, x ∈ fd ↔ Re sc I x :=
  fun x => ⟨w.re x, fun h => h.least (fun x hx => (w.ini x hx).resolve_right List.not_mem_nil) fun x hx y hy => (w.cl x hx y hy).resolve_right List.not_mem_nil⟩
/-! the closure as a list in U's order -/
open Classical in
noncomputable def clo (U : List α) (sc : α → List α) (I : List α) : List α := U.filter fun x => decide (Re sc I x)
open Classical in
theorem mem_clo {U : List α} {sc : α → List α} {I : List α} (h0 : ∀ x ∈ I, x ∈ U) (h1 : ∀ x ∈ U, ∀ y ∈ sc x, y ∈ U) {x : α} : x ∈ clo U sc I ↔ Re sc I x := by
  unfold clo
  rw [List.mem_filter]
  exact ⟨fun h => of_decide_eq_true h.2, fun h => ⟨h.least h0 h1, decide_eq_true h⟩⟩
theorem clo_perm {U : List α} {sc : α → List α} {I fd : List α} (ndU : U.Nodup) (h0 : ∀ x ∈ I, x ∈ U) (h1 : ∀ x ∈ U, ∀ y ∈ sc x, y ∈ U) (nd : fd.Nodup) (h : ∀ x, x ∈ fd ↔ Re sc I x) : (clo U sc I).Perm fd :=
  perm_of (ndU.filter _) nd fun x => by rw [mem_clo h0 h1, h]
theorem clo_congr {U : List α} {sc sc' : α → List α} {I I' : List α} (h : ∀ x, Re sc I x ↔ Re sc' I' x) : clo U sc I = clo U sc' I' := by
  unfold clo
  have e : (fun x => Classical.propDecidable (Re sc I x) |>.decide) = fun x => Classical.propDecidable (Re sc' I' x) |>.decide := by
    funext x
    exact decide_eq_decide.mpr (h x)
  exact congrArg (fun f => U.filter f) e
end
/-! ### breadth first -/
section
variable {κ : Type} [DecidableEq κ]
abbrev Wd := List Nat
abbrev Ws (κ : Type) := List (κ × Wd)
section
variable (n : Nat) (nx : κ → Nat → Option κ) (k0 : κ)
def ex1 (k : κ) (w : Wd) (ws : Ws κ) (l : Nat) : Ws κ := match nx k l with
  | none => ws
  | some k' => if k' ∈ ws.map (·.1) then ws else ws ++ [(k', w ++ [l])]
def exs (k : κ) (w : Wd) (ws : Ws κ) (m : Nat) : Ws κ := (List.range m).foldl (ex1 nx k w) ws
theorem exs_succ (k : κ) (w : Wd) (ws : Ws κ) (m : Nat) : exs nx k w ws (m + 1) = ex1 nx k w (exs nx k w ws m) m := by
  unfold exs
  rw [List.range_succ, List.foldl_append]
  rfl
/-- what is discovered when i are done -/
def Ds : Nat → Ws κ
  | 0 => [(k0, [])]
  | i + 1 => match (Ds i)[i]? with
    | some (k, w) => exs nx k w (Ds i) n
    | none => Ds i
end
variable {n : Nat} {nx : κ → Nat → Option κ} {k0 : κ}
theorem Ds_succ {i : Nat} {k : κ} {w : Wd} (h : (Ds n nx k0 i)[i]? = some (k, w)) : Ds n nx k0 (i + 1) = exs nx k w (Ds n nx k0 i) n := by
  rw [Ds, h]
theorem ex1_pre (k : κ) (w : Wd) (ws : Ws κ) (l : Nat) : ∃ m, ex1 nx k w ws l = ws ++ m := by
  unfold ex1
  split
  · exact ⟨[], by simp⟩
  · split
    · exact ⟨[], by simp⟩
    · exact ⟨_, rfl⟩
theorem exs_pre (k : κ) (w : Wd) (ws : Ws κ) : ∀ m, ∃ t, exs nx k w ws m = ws ++ t
  | 0 => ⟨[], by simp [exs]⟩
  | m + 1 => by
    obtain ⟨t, e⟩ := exs_pre k w ws m
    obtain ⟨u, f⟩ := ex1_pre (nx := nx) k w (exs nx k w ws m) m
    exact ⟨t ++ u, by rw [exs_succ, f, e, List.append_assoc]⟩
theorem Ds_pre1 (i : Nat) : ∃ t, Ds n nx k0 (i + 1) = Ds n nx k0 i ++ t := by
  rw [Ds]
  split
  · exact exs_pre _ _ _ _
  · exact ⟨[], by simp⟩
theorem Ds_pre (i : Nat) : ∀ j, ∃ t, Ds n nx k0 (i + j) = Ds n nx k0 i ++ t
  | 0 => ⟨[], by simp⟩
  | j + 1 => by
    obtain ⟨t, e⟩ := Ds_pre i j
    obtain ⟨u, f⟩ := Ds_pre1 (n := n) (nx := nx) (k0 := k0) (i + j)
    exact ⟨t ++ u, by rw [show i + (j + 1) = i + j + 1 by omega, f, e, List.append_assoc]⟩
theorem Ds_get {i j : Nat} (h : i ≤ j) {m : Nat} {x : κ × Wd} (e : (Ds n nx k0 i)[m]? = some x) : (Ds n nx k0 j)[m]? = some x := by
  obtain ⟨t, f⟩ := Ds_pre (n := n) (nx := nx) (k0 := k0) i (j - i)
  rw [show i + (j - i) = j by omega] at f
  rw [f, List.getElem?_append_left (List.getElem?_eq_some_iff.mp e).1]
  exact e
theorem Ds_len {i j : Nat} (h : i ≤ j) : (Ds n nx k0 i).length ≤ (Ds n nx k0 j).length := by
  obtain ⟨t, f⟩ := Ds_pre (n := n) (nx := nx) (k0 := k0) i (j - i)
  rw [show i + (j - i) = j by omega] at f
  rw [f, List.length_append]
  omega
theorem ex1_nodup {k : κ} {w : Wd} {ws : Ws κ} {l : Nat} (h : (ws.map (·.1)).Nodup) : ((ex1 nx k w ws l).map (·.1)).Nodup := by
  unfold ex1
  split
  · exact h
  · split
    · exact h
    · rename_i z
      rw [List.map_append, List.nodup_append]
      exact ⟨h, by simp, fun a ha b hb => by simp at hb; subst hb; rintro rfl; exact z ha⟩
theorem exs_nodup {k : κ} {w : Wd} {ws : Ws κ} (h : (ws.map (·.1)).Nodup) : ∀ m, ((exs nx k w ws m).map (·.1)).Nodup
  | 0 => h
  | m + 1 => by rw [exs_succ]; exact ex1_nodup (exs_nodup h m)
theorem Ds_nodup : ∀ i, ((Ds n nx k0 i).map (·.1)).Nodup
  | 0 => by simp [Ds]
  | i + 1 => by
    rw [Ds]
    split
    · exact exs_nodup (Ds_nodup i) n
    · exact Ds_nodup i
/-- a property of keys that goes along -/
theorem ex1_all {P : κ → Prop} {k : κ} {w : Wd} {ws : Ws κ} {l : Nat} (hp : ∀ k', nx k l = some k' → P k') (h : ∀ x ∈ ws, P x.1) : ∀ x ∈ ex1 nx k w ws l, P x.1 := by
  unfold ex1
  split
  · exact h
  · rename_i k' e
    split
    · exact h
    · intro x hx
      rcases List.mem_append.mp hx with hx | hx
      · exact h x hx
      · rw [List.mem_singleton.mp hx]; exact hp _ e
theorem exs_all {P : κ → Prop} {k : κ} {w : Wd} {ws : Ws κ} (m : Nat) (hp : ∀ l k', l < m → nx k l = some k' → P k') (h : ∀ x ∈ ws, P x.1) : ∀ x ∈ exs nx k w ws m, P x.1 := by
  induction m with
  | zero => exact h
  | succ m ih =>
    rw [exs_succ]
    exact ex1_all (fun k' e => hp m k' (by omega) e) (ih fun l k' hl e => hp l k' (by omega) e)
theorem Ds_all {P : κ → Prop} (h0 : P k0) (hp : ∀ k l k', P k → l < n → nx k l = some k' → P k') : ∀ i, ∀ x ∈ Ds n nx k0 i, P x.1
  | 0 => by simpa [Ds] using h0
  | i + 1 => by
    have ih := Ds_all h0 hp i
    rw [Ds]
    split
    · rename_i k w e
      exact exs_all n (fun l k' hl e' => hp k l k' (ih _ (List.mem_of_getElem? e)) hl e') ih
    · exact ih
theorem exs_wlen {k : κ} {w : Wd} {ws : Ws κ} {i : Nat} (hw : w.length ≤ i) (h : ∀ x ∈ ws, x.2.length ≤ i + 1) : ∀ m, ∀ x ∈ exs nx k w ws m, x.2.length ≤ i + 1
  | 0 => h
  | m + 1 => by
    have ih := exs_wlen (k := k) hw h m
    rw [exs_succ]
    unfold ex1
    split
    · exact ih
    · split
      · exact ih
      · intro x hx
        rcases List.mem_append.mp hx with hx | hx
        · exact ih x hx
        · rw [List.mem_singleton.mp hx]; simp; omega
/-- letters of the words -/
theorem exs_ltr {N : Nat} {k : κ} {w : Wd} {ws : Ws κ} (hw : ∀ a ∈ w, a < N) (h : ∀ x ∈ ws, ∀ a ∈ x.2, a < N) : ∀ m, m ≤ N → ∀ x ∈ exs nx k w ws m, ∀ a ∈ x.2, a < N
  | 0, _ => h
  | m + 1, hm => by
    have ih := exs_ltr (k := k) hw h m (by omega)
    rw [exs_succ]
    unfold ex1
    split
    · exact ih
    · split
      · exact ih
      · intro x hx a ha
        rcases List.mem_append.mp hx with hx | hx
        · exact ih x hx a ha
        · rw [List.mem_singleton.mp hx] at ha
          rcases List.mem_append.mp ha with ha | ha
          · exact hw a ha
          · rw [List.mem_singleton.mp ha]; omega
theorem Ds_wlen : ∀ i, ∀ x ∈ Ds n nx k0 i, x.2.length ≤ i
  | 0 => by simp [Ds]
  | i + 1 => by
    have ih := Ds_wlen i
    rw [Ds]
    split
    · rename_i k w e
      exact exs_wlen (ih _ (List.mem_of_getElem? e)) (fun x hx => Nat.le_succ_of_le (ih x hx)) n
    · exact fun x hx => Nat.le_succ_of_le (ih x hx)
theorem Ds_ltr : ∀ i, ∀ x ∈ Ds n nx k0 i, ∀ a ∈ x.2, a < n
  | 0 => by simp [Ds]
  | i + 1 => by
    have ih := Ds_ltr i
    rw [Ds]
    split
    · rename_i k w e
      exact exs_ltr (ih _ (List.mem_of_getElem? e)) ih n (Nat.le_refl _)
    · exact ih
/-- the answer: the first that is a goal -/
structure Ans (n : Nat) (nx : κ → Nat → Option κ) (k0 : κ) (G : κ → Bool) (r : Option Wd) (i : Nat) : Prop where
  no : ∀ j, j < i → ∀ k w, (Ds n nx k0 j)[j]? = some (k, w) → G k = false
  is : (∃ k w, (Ds n nx k0 i)[i]? = some (k, w) ∧ G k = true ∧ r = some w) ∨ ((Ds n nx k0 i)[i]? = none ∧ r = none)
theorem Ans.uniq {G : κ → Bool} {r r' : Option Wd} {i j : Nat} (a : Ans n nx k0 G r i) (b : Ans n nx k0 G r' j) : r = r' := by
  have stay : ∀ {i j : Nat}, i < j → (Ds n nx k0 i)[i]? = none → (Ds n nx k0 j)[j]? = none := fun {i j} hij h => by
    have key : ∀ m, Ds n nx k0 (i + m) = Ds n nx k0 i := by
      intro m
      induction m with
      | zero => rfl
      | succ m ih =>
        have : (Ds n nx k0 (i + m))[i + m]? = none := by
          rw [ih]
          rw [List.getElem?_eq_none_iff] at h ⊢
          omega
        rw [show i + (m + 1) = i + m + 1 by omega, Ds, this, ih]
    have := key (j - i)
    rw [show i + (j - i) = j by omega] at this
    rw [this]
    rw [List.getElem?_eq_none_iff] at h ⊢
    omega
  have one : ∀ {r r' : Option Wd} {i j : Nat}, Ans n nx k0 G r i → Ans n nx k0 G r' j → i < j → r = r' := fun {r r' i j} a b hij => by
    rcases a.is with ⟨k, w, e, g, rfl⟩ | ⟨e, rfl⟩
    · rw [b.no i hij k w e] at g; cases g
    · rcases b.is with ⟨k, w, e', _⟩ | ⟨_, rfl⟩
      · rw [stay hij e] at e'; cases e'
      · rfl
  rcases Nat.lt_trichotomy i j with h | h | h
  · exact one a b h
  · subst h
    rcases a.is with ⟨k, w, e, g, rfl⟩ | ⟨e, rfl⟩
    · rcases b.is with ⟨k', w', e', _, rfl⟩ | ⟨e', _⟩
      · rw [e] at e'; cases e'; rfl
      · rw [e] at e'; cases e'
    · rcases b.is with ⟨k', w', e', _⟩ | ⟨_, rfl⟩
      · rw [e] at e'; cases e'
      · rfl
  · exact (one b a h).symm
/-! words by length, then by letters -/
def lx : Wd → Wd → Bool
  | [], [] => false
  | [], _ :: _ => true
  | _ :: _, [] => false
  | a :: u, b :: v => if a = b then lx u v else decide (a < b)
/-- u is ahead of v -/
def Sh (u v : Wd) : Prop := u.length < v.length ∨ u.length = v.length ∧ lx u v = true
theorem lx_trans : ∀ {u v w : Wd}, lx u v = true → lx v w = true → lx u w = true
  | [], [], _, h, _ => by cases h
  | [], _ :: _, [], _, h => by cases h
  | [], _ :: _, _ :: _, _, _ => rfl
  | _ :: _, [], _, h, _ => by cases h
  | _ :: _, _ :: _, [], _, h => by cases h
  | a :: u, b :: v, c :: w, h1, h2 => by
    unfold lx at h1 h2 ⊢
    by_cases e1 : a = b
    · rw [if_pos e1] at h1
      by_cases e2 : b = c
      · rw [if_pos e2] at h2
        rw [if_pos (e1.trans e2)]
        exact lx_trans h1 h2
      · rw [if_neg e2] at h2
        rw [if_neg (e1 ▸ e2), e1]
        exact h2
    · rw [if_neg e1] at h1
      have h1' := of_decide_eq_true h1
      by_cases e2 : b = c
      · rw [if_neg (e2 ▸ e1), ← e2]
        exact h1
      · rw [if_neg e2] at h2
        have h2' := of_decide_eq_true h2
        rw [if_neg (by omega)]
        exact decide_eq_true (by omega)
theorem lx_irr : ∀ u : Wd, lx u u = false
  | [] => rfl
  | a :: u => by unfold lx; rw [if_pos rfl]; exact lx_irr u
theorem Sh.trans {u v w : Wd} (h1 : Sh u v) (h2 : Sh v w) : Sh u w := by
  rcases h1 with h1 | ⟨h1, l1⟩ <;> rcases h2 with h2 | ⟨h2, l2⟩
  · exact .inl (by omega)
  · exact .inl (by omega)
  · exact .inl (by omega)
  · exact .inr ⟨by omega, lx_trans l1 l2⟩
theorem Sh.irr {u : Wd} (h : Sh u u) : False := by
  rcases h with h | ⟨_, h⟩
  · omega
  · rw [lx_irr] at h; cases h
theorem lx_app : ∀ {u v x y : Wd}, u.length = v.length → lx u v = true → lx (u ++ x) (v ++ y) = true
  | [], [], _, _, _, h => by cases h
  | [], _ :: _, _, _, h, _ => by cases h
  | _ :: _, [], _, _, h, _ => by cases h
  | a :: u, b :: v, x, y, hl, h => by
    rw [List.cons_append, List.cons_append]
    unfold lx at h ⊢
    by_cases e : a = b
    · rw [if_pos e] at h ⊢
      exact lx_app (by simpa using hl) h
    · rw [if_neg e] at h ⊢
      exact h
theorem lx_last : ∀ (u : Wd) {a b : Nat}, a < b → lx (u ++ [a]) (u ++ [b]) = true
  | [], a, b, h => by
    show (if a = b then lx [] [] else decide (a < b)) = true
    rw [if_neg (by omega)]
    exact decide_eq_true h
  | c :: u, a, b, h => by
    rw [List.cons_append, List.cons_append]
    unfold lx
    rw [if_pos rfl]
    exact lx_last u h
theorem Sh.app {u v : Wd} (h : Sh u v) (a b : Nat) : Sh (u ++ [a]) (v ++ [b]) := by
  rcases h with h | ⟨h, l⟩
  · exact .inl (by simp; omega)
  · exact .inr ⟨by simp [h], lx_app h l⟩
theorem Sh.last {u : Wd} {a b : Nat} (h : a < b) : Sh (u ++ [a]) (u ++ [b]) := .inr ⟨by simp, lx_last u h⟩
/-- the words come in their order, each below all that can still come -/
theorem Ds_sorted : ∀ i, (Ds n nx k0 i).Pairwise (fun x y => Sh x.2 y.2) ∧ ∀ j, i ≤ j → ∀ k w, (Ds n nx k0 i)[j]? = some (k, w) → ∀ x ∈ Ds n nx k0 i, ∀ l, Sh x.2 (w ++ [l])
  | 0 => by
    refine ⟨by simp [Ds], fun j _ k w e x hx l => ?_⟩
    simp [Ds] at hx
    subst hx
    exact .inl (by simp)
  | i + 1 => by
    obtain ⟨p, q⟩ := Ds_sorted i
    cases e : (Ds n nx k0 i)[i]? with
    | none =>
      have e1 : Ds n nx k0 (i + 1) = Ds n nx k0 i := by rw [Ds, e]
      rw [e1]
      exact ⟨p, fun j hj => q j (by omega)⟩
    | some kw =>
      obtain ⟨k, w⟩ := kw
      rw [Ds_succ e]
      have key : ∀ m, (exs nx k w (Ds n nx k0 i) m).Pairwise (fun x y => Sh x.2 y.2) ∧ (∀ x ∈ exs nx k w (Ds n nx k0 i) m, x ∈ Ds n nx k0 i ∨ ∃ l, l < m ∧ x.2 = w ++ [l]) := by
        intro m
        induction m with
        | zero => exact ⟨p, fun x hx => .inl hx⟩
        | succ m ih =>
          obtain ⟨p1, q1⟩ := ih
          rw [exs_succ]
          unfold ex1
          split
          · exact ⟨p1, fun x hx => (q1 x hx).imp id fun ⟨l, hl, el⟩ => ⟨l, by omega, el⟩⟩
          · split
            · exact ⟨p1, fun x hx => (q1 x hx).imp id fun ⟨l, hl, el⟩ => ⟨l, by omega, el⟩⟩
            · refine ⟨?_, fun x hx => ?_⟩
              · rw [List.pairwise_append]
                refine ⟨p1, by simp, fun x hx y hy => ?_⟩
                rw [List.mem_singleton.mp hy]
                rcases q1 x hx with h | ⟨l, hl, el⟩
                · exact q i (Nat.le_refl _) k w e x h m
                · rw [el]; exact Sh.last hl
              · rcases List.mem_append.mp hx with hx | hx
                · exact (q1 x hx).imp id fun ⟨l, hl, el⟩ => ⟨l, by omega, el⟩
                · rw [List.mem_singleton.mp hx]; exact .inr ⟨m, by omega, rfl⟩
      obtain ⟨p2, q2⟩ := key n
      refine ⟨p2, fun j hj k' w' e' x hx l => ?_⟩
      have hw : Sh w w' := by
        have ei : (exs nx k w (Ds n nx k0 i) n)[i]? = some (k, w) := by
          obtain ⟨t, f⟩ := exs_pre (nx := nx) k w (Ds n nx k0 i) n
          rw [f, List.getElem?_append_left (List.getElem?_eq_some_iff.mp e).1]
          exact e
        obtain ⟨h1, g1⟩ := List.getElem?_eq_some_iff.mp ei
        obtain ⟨h2, g2⟩ := List.getElem?_eq_some_iff.mp e'
        have := List.pairwise_iff_getElem.mp p2 i j h1 h2 (by omega)
        rw [g1, g2] at this
        exact this
      rcases q2 x hx with h | ⟨l', _, el⟩
      · exact (q i (Nat.le_refl _) k w e x h 0).trans (hw.app 0 l)
      · rw [el]; exact hw.app l' l
/-- a key that a word leads to -/
def run (nx : κ → Nat → Option κ) : κ → Wd → Option κ
  | k, [] => some k
  | k, l :: w => (nx k l).bind fun k' => run nx k' w
theorem run_app {nx : κ → Nat → Option κ} : ∀ (u v : Wd) (k : κ), run nx k (u ++ v) = (run nx k u).bind fun k' => run nx k' v
  | [], v, k => rfl
  | a :: u, v, k => by
    show (nx k a).bind (fun k' => run nx k' (u ++ v)) = ((nx k a).bind fun k' => run nx k' u).bind fun k' => run nx k' v
    cases nx k a with
    | none => rfl
    | some k' => exact run_app u v k'
/-- what a word leads to is discovered, by no later word -/
theorem found (N : Nat) (hN : (Ds n nx k0 N)[N]? = none) : ∀ (w : Wd), (∀ a ∈ w, a < n) → ∀ k, run nx k0 w = some k → ∃ u, (k, u) ∈ Ds n nx k0 N ∧ (u = w ∨ Sh u w) := by
  intro w
  generalize hm : w.length = m
  induction m generalizing w with
  | zero =>
    intro _ k e
    obtain rfl := List.length_eq_zero_iff.mp hm
    cases e
    refine ⟨[], ?_, .inl rfl⟩
    obtain ⟨t, f⟩ := Ds_pre (n := n) (nx := nx) (k0 := k0) 0 N
    rw [Nat.zero_add] at f
    rw [f]
    exact List.mem_append_left _ (by simp [Ds])
  | succ m ih =>
    intro hl k e
    rcases List.eq_nil_or_concat w with rfl | ⟨v, a, rfl⟩
    · simp at hm
    rw [List.concat_eq_append] at *
    rw [run_app] at e
    cases ev : run nx k0 v with
    | none => rw [ev] at e; cases e
    | some kv =>
      rw [ev] at e
      have e : (nx kv a).bind some = some k := e
      have e' : nx kv a = some k := by simpa using e
      obtain ⟨u, hu, hsu⟩ := ih v (by simpa using hm) (fun x hx => hl x (List.mem_append_left _ hx)) kv ev
      obtain ⟨i, ei⟩ := List.getElem?_of_mem hu
      have hiN : i < N := by
        have h1 := (List.getElem?_eq_some_iff.mp ei).1
        rw [List.getElem?_eq_none_iff] at hN
        omega
      -- i is processed
      have hi : (Ds n nx k0 i)[i]? = some (kv, u) := by
        cases q : (Ds n nx k0 i)[i]? with
        | none =>
          have hlen : ∀ m, Ds n nx k0 (i + m) = Ds n nx k0 i := by
            intro m
            induction m with
            | zero => rfl
            | succ m ih =>
              have : (Ds n nx k0 (i + m))[i + m]? = none := by
                rw [ih]
                rw [List.getElem?_eq_none_iff] at q ⊢
                omega
              rw [show i + (m + 1) = i + m + 1 by omega, Ds, this, ih]
          have := hlen (N - i)
          rw [show i + (N - i) = N by omega] at this
          rw [this, q] at ei
          cases ei
        | some x => rw [Ds_get (by omega) q] at ei; exact ei
      have ha : a < n := hl a (by simp)
      have inA : ∃ u', (k, u') ∈ Ds n nx k0 (i + 1) ∧ (u' = u ++ [a] ∨ Sh u' (u ++ [a])) := by
        rw [Ds_succ hi]
        have pre : ∀ m, m ≤ n → ∃ t, exs nx kv u (Ds n nx k0 i) n = exs nx kv u (Ds n nx k0 i) m ++ t := by
          intro m hm
          have : ∀ d, ∃ t, exs nx kv u (Ds n nx k0 i) (m + d) = exs nx kv u (Ds n nx k0 i) m ++ t := by
            intro d
            induction d with
            | zero => exact ⟨[], by simp⟩
            | succ d ih =>
              obtain ⟨t, f⟩ := ih
              obtain ⟨t2, f2⟩ := ex1_pre (nx := nx) kv u (exs nx kv u (Ds n nx k0 i) (m + d)) (m + d)
              exact ⟨t ++ t2, by rw [show m + (d + 1) = m + d + 1 by omega, exs_succ, f2, f, List.append_assoc]⟩
          have := this (n - m)
          rw [show m + (n - m) = n by omega] at this
          exact this
        obtain ⟨t, f⟩ := pre (a + 1) ha
        have here : ∃ u', (k, u') ∈ exs nx kv u (Ds n nx k0 i) (a + 1) := by
          rw [exs_succ]
          unfold ex1
          rw [e']
          dsimp only
          split
          · rename_i z
            obtain ⟨x, hx, ex⟩ := List.mem_map.mp z
            exact ⟨x.2, by rw [← ex]; exact hx⟩
          · exact ⟨u ++ [a], by simp⟩
        obtain ⟨u', hu'⟩ := here
        refine ⟨u', by rw [f]; exact List.mem_append_left _ hu', ?_⟩
        -- what stands at a + 1 is ahead of u ++ [a], or it is it
        have ord : ∀ m, m ≤ a + 1 → ∀ x ∈ exs nx kv u (Ds n nx k0 i) m, x.2 = u ++ [a] ∨ Sh x.2 (u ++ [a]) := by
          intro m
          induction m with
          | zero => exact fun _ x hx => .inr ((Ds_sorted i).2 i (Nat.le_refl _) kv u hi x hx a)
          | succ m ih =>
            intro hm x hx
            rw [exs_succ] at hx
            unfold ex1 at hx
            split at hx
            · exact ih (by omega) x hx
            · split at hx
              · exact ih (by omega) x hx
              · rcases List.mem_append.mp hx with hx | hx
                · exact ih (by omega) x hx
                · rw [List.mem_singleton.mp hx]
                  by_cases h : m = a
                  · subst h; exact .inl rfl
                  · exact .inr (Sh.last (by omega))
        exact ord (a + 1) (Nat.le_refl _) _ hu'
      obtain ⟨u', h1, h2⟩ := inA
      refine ⟨u', ?_, ?_⟩
      · obtain ⟨t, f⟩ := Ds_pre (n := n) (nx := nx) (k0 := k0) (i + 1) (N - (i + 1))
        rw [show i + 1 + (N - (i + 1)) = N by omega] at f
        rw [f]
        exact List.mem_append_left _ h1
      · rcases hsu with rfl | hsu
        · exact h2
        · have := hsu.app a a
          rcases h2 with rfl | h2
          · exact .inr this
          · exact .inr (h2.trans this)
/-- the answer is the first word that leads to a goal -/
theorem Ans.least {G : κ → Bool} {r : Option Wd} {i : Nat} (A : Ans n nx k0 G r i) (hN : ∃ N, (Ds n nx k0 N)[N]? = none) {w : Wd} (hl : ∀ a ∈ w, a < n) {k : κ} (e : run nx k0 w = some k) (g : G k = true) : ∃ t, r = some t ∧ (t = w ∨ Sh t w) := by
  obtain ⟨N, hN⟩ := hN
  obtain ⟨u, hu, hs⟩ := found N hN w hl k e
  obtain ⟨j, ej⟩ := List.getElem?_of_mem hu
  have hj : (Ds n nx k0 j)[j]? = some (k, u) := by
    cases q : (Ds n nx k0 j)[j]? with
    | some x =>
      have hjN : j ≤ N := by
        have h1 := (List.getElem?_eq_some_iff.mp ej).1
        rw [List.getElem?_eq_none_iff] at hN
        omega
      rw [Ds_get hjN q] at ej; exact ej
    | none =>
      have hlen : ∀ m, Ds n nx k0 (j + m) = Ds n nx k0 j := by
        intro m
        induction m with
        | zero => rfl
        | succ m ih =>
          have : (Ds n nx k0 (j + m))[j + m]? = none := by
            rw [ih]
            rw [List.getElem?_eq_none_iff] at q ⊢
            omega
          rw [show j + (m + 1) = j + m + 1 by omega, Ds, this, ih]
      have h1 := (List.getElem?_eq_some_iff.mp ej).1
      rw [List.getElem?_eq_none_iff] at hN
      have := hlen (N - j)
      rw [show j + (N - j) = N by omega] at this
      rw [this, q] at ej
      cases ej
  have hij : i ≤ j := by
    rcases Nat.lt_or_ge j i with h | h
    · rw [A.no j h k u hj] at g; cases g
    · exact h
  rcases A.is with ⟨k', t, e', _, rfl⟩ | ⟨e', rfl⟩
  · refine ⟨t, rfl, ?_⟩
    rcases Nat.lt_or_eq_of_le hij with h | h
    · have e2 := Ds_get (j := j) (by omega) e'
      obtain ⟨h1, g1⟩ := List.getElem?_eq_some_iff.mp e2
      obtain ⟨h2, g2⟩ := List.getElem?_eq_some_iff.mp hj
      have := List.pairwise_iff_getElem.mp (Ds_sorted j).1 i j h1 h2 h
      rw [g1, g2] at this
      rcases hs with rfl | hs
      · exact .inr this
      · exact .inr (Sh.trans this hs)
    · subst h
      rw [hj] at e'
      cases e'
      exact hs
  · exfalso
    have hlen : ∀ m, Ds n nx k0 (i + m) = Ds n nx k0 i := by
      intro m
      induction m with
      | zero => rfl
      | succ m ih =>
        have : (Ds n nx k0 (i + m))[i + m]? = none := by
          rw [ih]
          rw [List.getElem?_eq_none_iff] at e' ⊢
          omega
        rw [show i + (m + 1) = i + m + 1 by omega, Ds, this, ih]
    have := hlen (j - i)
    rw [show i + (j - i) = j by omega] at this
    rw [this] at hj
    have h1 := (List.getElem?_eq_some_iff.mp hj).1
    rw [List.getElem?_eq_none_iff] at e'
    omega
end
end CL
set_option Elab.async false
set_option linter.all false
set_option maxRecDepth 100000
set_option maxHeartbeats 2000000
/-! Z45: to compute with dicts of tuple keys and of nested keys. -/
namespace Z
open PySem PySem.Spec L2
section
variable {h H : Own} {x y : D} {τ : Fm} {n b : Nat}
theorem fIxA_eq : fIxA x y h = (match fIx x y h with | .stuck => fIxN x y h | z => z) := rfl
theorem fInA_eq : fInA x y h = (match fIn x y h with | .stuck => fInN false x y h | z => z) := rfl
theorem fNotInA_eq : fNotInA x y h = (match fNotIn x y h with | .stuck => fInN true x y h | z => z) := rfl
theorem fIxA_of {r : R} (e : fIx x y h = .ok r H) : fIxA x y h = .ok r H := by rw [fIxA_eq, e]
theorem fInA_of {r : R} (e : fIn x y h = .ok r H) : fInA x y h = .ok r H := by rw [fInA_eq, e]
theorem fNotInA_of {r : R} (e : fNotIn x y h = .ok r H) : fNotInA x y h = .ok r H := by rw [fNotInA_eq, e]
@[simp] theorem fAdd_ll {ds es : List D} : fAdd (.lst ds) (.lst es) h = if ds.length + es.length ≤ sizeLine then .ok (.n (.lst (ds ++ es))) h else .stuck := rfl
@[simp] theorem sPutA_eq {o i x : ED} : sPutA o i x τ h = sE x (fun v τ h => sE o (fun d τ h => sE i (fun k τ h => match fPutA τ.b d k v h with
  | some h1 => .next τ.s h1
  | none => .stuck) τ h) τ h) τ h := rfl
@[simp] theorem eNewN_eq : eNewN τ h = .ok (.n (.dN [])) h := rfl
@[simp] theorem eNewT_eq : eNewT τ h = .ok (.n (.dT [])) h := rfl
@[simp] theorem eNewK_eq : eNewK τ h = .ok (.n (.dK [])) h := rfl
@[simp] theorem eDx_eq {pt : PutO} {a0 : O} {it : EI} {g : ET} {t : EB} {kx vx : ED} {vs : List Nat} : eDx pt a0 it g t kx vx vs τ h = (it τ h).bind fun p h1 => dxGo pt p.2 g t kx vx τ.b (Z.clr vs τ.s) p.1 h1 a0 := rfl
@[simp] theorem fLRg_i {i : Int} : fLRg (.int i) h = if 0 ≤ i ∧ i ≤ 16777216 then .ok (.n (.lst ((List.range i.toNat).map fun i : Nat => D.int (i : Int)))) h else .stuck := rfl
end
/-! ### dicts of pairs -/
abbrev pD (p : Nat × Nat) : D := .tup [nD p.1, nD p.2]
@[simp] theorem nrf_pD (p : Nat × Nat) : nrf (pD p) = true := by simp [pD, nrf, nrfs]
@[simp] theorem nrf_pDs : ∀ w : List (Nat × Nat), nrfs (w.map pD) = true
  | [] => rfl
  | _ :: w => by rw [List.map_cons, nrfs, nrf_pDs w, nrf_pD]; rfl
def kP (p : Nat × Nat) : List Key := [Sum.inl (p.1 : Int), Sum.inl (p.2 : Int)]
theorem kP_inj {p q : Nat × Nat} (h : kP p = kP q) : p = q := by
  unfold kP at h
  simp at h
  exact Prod.ext (by omega) (by omega)
@[simp] theorem asKs_pD (p : Nat × Nat) : asKs (pD p) = some (kP p) := rfl
def kdP (ps : List (Nat × Nat)) : List (List Key × D) := ps.map fun p => (kP p, D.bl true)
@[simp] theorem kdP_len (ps : List (Nat × Nat)) : (kdP ps).length = ps.length := by simp [kdP]
theorem kdP_any (ps : List (Nat × Nat)) (p : Nat × Nat) : ((kdP ps).any fun z => decide (z.1 = kP p)) = decide (p ∈ ps) := by
  unfold kdP
  rw [List.any_map, Bool.eq_iff_iff, List.any_eq_true, decide_eq_true_eq]
  constructor
  · rintro ⟨x, hx, e⟩
    have : x = p := kP_inj (by simpa using e)
    exact this ▸ hx
  · exact fun hx => ⟨p, hx, by simp⟩
theorem putD_kdP (ps : List (Nat × Nat)) (p : Nat × Nat) : putD (kdP ps) (kP p) (.bl true) = kdP (if p ∈ ps then ps else ps ++ [p]) := by
  unfold putD
  rw [kdP_any]
  by_cases hc : p ∈ ps
  · rw [if_pos (by simpa using hc), if_pos hc]
    unfold kdP
    rw [List.map_map]
    apply List.map_congr_left
    intro x _
    simp only [Function.comp]
    split
    · rename_i e; rw [e]
    · rfl
  · rw [if_neg (by simpa using hc), if_neg hc]
    unfold kdP
    simp
theorem getD_kdP (ps : List (Nat × Nat)) (p : Nat × Nat) : getD (kdP ps) (kP p) = if p ∈ ps then some (.bl true) else none := by
  induction ps with
  | nil => rfl
  | cons g gs ih =>
    unfold getD kdP at ih ⊢
    rw [List.map_cons, List.find?_cons]
    by_cases h : g = p
    · subst h
      simp
    · have : (kP g = kP p) = False := by
        rw [eq_iff_iff, iff_false]
        exact fun e => h (kP_inj e)
      simp only [this, decide_false]
      rw [ih]
      have h' : p ≠ g := Ne.symm h
      simp [h']
section
variable {H : Own} {b n : Nat} {ps : List (Nat × Nat)} {p : Nat × Nat}
theorem notIn_kdP (e : H[n]? = some (.dT (kdP ps))) : fNotIn (pD p) (.ref n) H = .ok (.v (.bl (!decide (p ∈ ps)))) H := by
  have h1 : fInQ true (pD p) (.ref n) H = .stuck := by
    unfold fInQ asQ asL
    simp [e]
  have h2 : fInK true (pD p) (.ref n) H = .ok (.v (.bl (!decide (p ∈ ps)))) H := by
    unfold fInK askD asD
    have g := getD_kdP ps p
    simp only [e, asKs_pD, Option.map_some, g]
    by_cases h : p ∈ ps <;> simp [h]
  show (match fInQ true (pD p) (.ref n) H with | .stuck => _ | z => z) = _
  rw [h1]
  dsimp only
  show (match fInK true (pD p) (.ref n) H with | .stuck => _ | z => z) = _
  rw [h2]
theorem fPut_kdP (hb : b ≤ n) (hl : ps.length ≤ 16000000) (e : H[n]? = some (.dT (kdP ps))) : fPut b (.ref n) (pD p) (.bl true) H = some (H.set n (.dT (kdP (if p ∈ ps then ps else ps ++ [p])))) := by
  unfold fPut
  simp only [e, asKs_pD]
  have hk : (kdP ps).length < sizeLine := by rw [kdP_len]; exact szlB hl
  rw [if_pos hk, putO_own hb, putD_kdP]
theorem fListT_kdP (e : H[n]? = some (.dT (kdP ps))) : fListT [.ref n] H = .ok (.n (.lst (ps.map pD))) H := by
  unfold fListT asD
  simp only [e]
  unfold kdP
  rw [List.map_map]
  rfl
def ii (p : Nat × Nat) : Int × Int := ((p.1 : Int), (p.2 : Int))
theorem sortDP_of {qs : List (Nat × Nat)} (e : H[n]? = some (.dT (kdP ps))) (hp : qs.Perm ps) (hs : qs.Pairwise fun x y => SrtO.lexB (ii y) (ii x) = false) : fSortDP [.ref n] H = .ok (.n (.lst (qs.map pD))) H := by
  unfold fSortDP asD
  simp only [e]
  have k1 : (kdP ps).map (·.1) = (ps.map ii).map kp := by
    unfold kdP
    rw [List.map_map, List.map_map]
    rfl
  rw [k1, ips_kp]
  dsimp only
  have : qs.map ii = sortPP (ps.map ii) := sortPP_eq (hp.map ii) (List.pairwise_map.mpr hs)
  rw [← this, List.map_map]
  rfl
end
/-- a dict comprehension of marks at pairs -/
theorem dx_kdP {kp : Kp} {g : ET} {kx : ED} {b : Nat} {s : Sl} {h : Own} (hk : kpOk kp h) (as : List (Nat × Nat)) (hs : ∀ a ∈ as, ∃ s1, g (pD a) ⟨b, s⟩ h = .next s1 h ∧ kx ⟨b, s1⟩ h = .ok (pD a) h) (cs : List (Nat × Nat)) (hl : cs.length + as.length ≤ 1000000) :
    dxGo putOT kp g bYes kx (eC (.bl true)) b s (as.map pD) h (.dT (kdP cs)) = .ok (.n (.dT (kdP (as.foldl (fun c a => if a ∈ c then c else c ++ [a]) cs)))) h := by
  refine dx_pure pD (fun _ => true) pD (fun _ => .bl true) hk as _ _ (fun a ha => ?_) ?_
  · obtain ⟨s1, e1, e2⟩ := hs a ha
    exact ⟨s1, e1, rfl, fun _ => ⟨e2, rfl⟩⟩
  · rw [List.filter_eq_self.mpr (fun _ _ => rfl)]
    clear hs
    induction as generalizing cs with
    | nil => rfl
    | cons a as ih =>
      rw [List.length_cons] at hl
      rw [List.foldlM_cons]
      have hk : (kdP cs).length < sizeLine := by rw [kdP_len]; exact szlB (by omega)
      have e : putOT (.dT (kdP cs)) (pD a) (.bl true) = some (.dT (kdP (if a ∈ cs then cs else cs ++ [a]))) := by
        unfold putOT
        simp only [asKs_pD]
        rw [if_pos hk, putD_kdP]
      rw [e]
      have hl2 : (if a ∈ cs then cs else cs ++ [a]).length ≤ cs.length + 1 := by split <;> simp
      exact ih _ (by omega)
/-! ### dicts of nested keys -/
section
variable {κ υ : Type} [DecidableEq κ] (kD : κ → D) (kN : κ → NestedKey) (vD : υ → D)
/-- how such a dict is written down -/
def kdN (ws : List (κ × υ)) : List (D × D) := ws.map fun x => (kD x.1, vD x.2)
structure NKy : Prop where
  nk : ∀ k, keyN (kD k) = some (kN k)
  nk' : ∀ k, Z.nk (kD k) = some (kN k)
  inj : ∀ k l, kN k = kN l → k = l
variable {kD kN vD}
theorem getN_kdN (K : NKy kD kN) (ws : List (κ × υ)) (k : κ) : getN (kdN kD vD ws) (kN k) = ((ws.find? fun x => decide (x.1 = k)).map fun x => vD x.2) := by
  induction ws with
  | nil => rfl
  | cons x ws ih =>
    unfold getN kdN at ih ⊢
    rw [List.map_cons, List.find?_cons, List.find?_cons]
    by_cases h : x.1 = k
    · subst h
      simp only [K.nk', decide_true]
      rfl
    · have e : ¬ Z.nk (kD x.1) = some (kN k) := by rw [K.nk']; exact fun z => h (K.inj _ _ (Option.some.inj z))
      simp only [e, decide_false, h]
      exact ih
theorem putN_new (K : NKy kD kN) {ws : List (κ × υ)} {k : κ} {v : υ} (h : k ∉ ws.map (·.1)) : putN (kdN kD vD ws) (kN k) (kD k) (vD v) = kdN kD vD (ws ++ [(k, v)]) := by
  unfold putN
  rw [getN_kdN K]
  have e : (ws.find? fun x => decide (x.1 = k)) = none := by
    rw [List.find?_eq_none]
    intro x hx z
    exact h (List.mem_map.mpr ⟨x, hx, of_decide_eq_true z⟩)
  rw [e]
  unfold kdN
  simp
theorem find_key {ws : List (κ × υ)} {k : κ} {v : υ} {i : Nat} (nd : (ws.map (·.1)).Nodup) (h : ws[i]? = some (k, v)) : (ws.find? fun x => decide (x.1 = k)) = some (k, v) := by
  induction ws generalizing i with
  | nil => simp at h
  | cons x ws ih =>
    rw [List.map_cons, List.nodup_cons] at nd
    cases i with
    | zero =>
      simp at h
      subst h
      simp
    | succ i =>
      have h' : ws[i]? = some (k, v) := by simpa using h
      have ne : ¬ x.1 = k := fun e => nd.1 (e ▸ List.mem_map.mpr ⟨_, List.mem_of_getElem? h', rfl⟩)
      rw [List.find?_cons]
      simp only [ne, decide_false]
      exact ih nd.2 h'
section
variable {H : Own} {n b : Nat} {ws : List (κ × υ)} {k : κ} {v : υ}
theorem asQ_dN {l : List (D × D)} (e : H[n]? = some (.dN l)) : asQ H (.ref n) = none := by
  unfold asQ asL
  simp [e]
theorem asD_dN {l : List (D × D)} (e : H[n]? = some (.dN l)) : asD H (.ref n) = none := by
  unfold asD
  simp [e]
theorem fIxA_kdN (K : NKy kD kN) {i : Nat} (e : H[n]? = some (.dN (kdN kD vD ws))) (nd : (ws.map (·.1)).Nodup) (hi : ws[i]? = some (k, v)) : fIxA (.ref n) (kD k) H = .ok (.v (vD v)) H := by
  have e1 : fIx (.ref n) (kD k) H = .stuck := by
    have a : fIxQ (.ref n) (kD k) H = .stuck := by
      unfold fIxQ
      rw [asQ_dN e]
      try rfl
    have c : fIxD (.ref n) (kD k) H = .stuck := by
      unfold fIxD askD
      rw [asD_dN e]
    have bb : fIxS (.ref n) (kD k) H = .stuck := rfl
    show (match fIxQ (.ref n) (kD k) H with | .stuck => (orF fIxS fIxD) (.ref n) (kD k) H | z => z) = _
    rw [a]
    show (match fIxS (.ref n) (kD k) H with | .stuck => fIxD (.ref n) (kD k) H | z => z) = _
    rw [bb]
    exact c
  rw [fIxA_eq, e1]
  dsimp only
  unfold fIxN asN
  simp only [e, K.nk, getN_kdN K, find_key nd hi, Option.map_some]
theorem fNotInA_kdN (K : NKy kD kN) (e : H[n]? = some (.dN (kdN kD vD ws))) : fNotInA (kD k) (.ref n) H = .ok (.v (.bl (!decide (k ∈ ws.map (·.1))))) H := by
  have q : fNotIn (kD k) (.ref n) H = .stuck := by
    have a : fInQ true (kD k) (.ref n) H = .stuck := by
      unfold fInQ
      rw [asQ_dN e]
    have c : fInK true (kD k) (.ref n) H = .stuck := by
      unfold fInK askD
      rw [asD_dN e]
    have d : fInD true (kD k) (.ref n) H = .stuck := by
      unfold fInD toPh
      simp [e]
    show (match fInQ true (kD k) (.ref n) H with | .stuck => (orF (fInK true) (fInD true)) (kD k) (.ref n) H | z => z) = _
    rw [a]
    show (match fInK true (kD k) (.ref n) H with | .stuck => fInD true (kD k) (.ref n) H | z => z) = _
    rw [c]
    exact d
  rw [fNotInA_eq, q]
  dsimp only
  unfold fInN asN
  simp only [e, K.nk, getN_kdN K]
  have : ((ws.find? fun x => decide (x.1 = k)).map fun x => vD x.2).isSome = decide (k ∈ ws.map (·.1)) := by
    rw [Option.isSome_map, Bool.eq_iff_iff, List.find?_isSome, decide_eq_true_eq]
    constructor
    · rintro ⟨x, hx, e⟩
      exact List.mem_map.mpr ⟨x, hx, of_decide_eq_true e⟩
    · intro h
      obtain ⟨x, hx, e⟩ := List.mem_map.mp h
      exact ⟨x, hx, decide_eq_true e⟩
  simp [this]
theorem fPutA_kdN (K : NKy kD kN) (hb : b ≤ n) (hl : ws.length ≤ 16000000) (e : H[n]? = some (.dN (kdN kD vD ws))) (h : k ∉ ws.map (·.1)) : fPutA b (.ref n) (kD k) (vD v) H = some (H.set n (.dN (kdN kD vD (ws ++ [(k, v)])))) := by
  have q : fPut b (.ref n) (kD k) (vD v) H = none := by
    unfold fPut
    simp [e]
  unfold fPutA
  rw [q]
  dsimp only
  unfold fPutN asN
  simp only [e, K.nk]
  have hk : (kdN kD vD ws).length < sizeLine := by unfold kdN; rw [List.length_map]; exact szlB hl
  rw [if_pos hk, putO_own hb, putN_new K h]
end
end
end Z
set_option Elab.async false
set_option linter.all false
set_option maxRecDepth 100000
set_option maxHeartbeats 2000000
/-! Z46: automata as the texts have them. -/
namespace Z
open PySem PySem.Spec L2
abbrev lN (w : List Nat) : D := .lst (w.map nD)
@[simp] theorem nrf_lN (w : List Nat) : nrf (lN w) = true := by rw [lN, nrf, nrf_nDs]
@[simp] theorem nrf_lNs : ∀ w : List (List Nat), nrfs (w.map lN) = true
  | [] => rfl
  | _ :: w => by rw [List.map_cons, nrfs, nrf_lNs w, nrf_lN]; rfl
structure Au where
  n : Nat
  st : Nat
  fin : List Nat
  rows : List (List Nat)
namespace Au
def row (A : Au) (s : Nat) : List Nat := A.rows.getD s []
def go (A : Au) (s l : Nat) : Nat := (A.row s).getD l 0
def run (A : Au) (s : Nat) (w : List Nat) : Nat := w.foldl A.go s
end Au
/-- the law's tuple; the package's object -/
abbrev tA (A : Au) : D := .tup [nD A.n, nD A.st, lN A.fin, .lst (A.rows.map lN)]
abbrev oA (A : Au) : D := .obj 0 [nD A.n, nD A.st, wD A.fin, .tup (A.rows.map wD)]
structure AuOk (A : Au) (r : Nat) : Prop where
  rl : A.rows.length = r
  rw : ∀ w ∈ A.rows, w.length = A.n ∧ ∀ x ∈ w, x < r
  n1 : 1 ≤ A.n
  n9 : A.n ≤ 10
  r9 : r ≤ 40
  st : A.st < r
  fs : A.fin.Pairwise (· < ·)
  fl : ∀ x ∈ A.fin, x < r
section
variable {A : Au} {r s l : Nat}
theorem AuOk.row_get (a : AuOk A r) (h : s < r) : A.rows[s]? = some (A.row s) := by
  unfold Au.row
  rw [List.getD_eq_getElem?_getD, List.getElem?_eq_getElem (by rw [a.rl]; exact h)]
  rfl
theorem AuOk.row_mem (a : AuOk A r) (h : s < r) : A.row s ∈ A.rows := List.mem_of_getElem? (a.row_get h)
theorem AuOk.row_len (a : AuOk A r) (h : s < r) : (A.row s).length = A.n := (a.rw _ (a.row_mem h)).1
theorem AuOk.go_get (a : AuOk A r) (h : s < r) (hl : l < A.n) : (A.row s)[l]? = some (A.go s l) := by
  unfold Au.go
  rw [List.getD_eq_getElem?_getD, List.getElem?_eq_getElem (by rw [a.row_len h]; exact hl)]
  rfl
theorem AuOk.go_lt (a : AuOk A r) (h : s < r) (hl : l < A.n) : A.go s l < r := (a.rw _ (a.row_mem h)).2 _ (List.mem_of_getElem? (a.go_get h hl))
theorem AuOk.run_lt (a : AuOk A r) (h : s < r) : ∀ {w : List Nat}, (∀ x ∈ w, x < A.n) → A.run s w < r := by
  intro w
  induction w generalizing s with
  | nil => exact fun _ => h
  | cons x w ih => exact fun hw => ih (s := A.go s x) (a.go_lt h (hw x List.mem_cons_self)) fun y hy => hw y (List.mem_cons_of_mem _ hy)
variable {h : Own}
@[simp] theorem tA_0 : fIx (tA A) (.int 0) h = .ok (.v (nD A.n)) h := fIx_q (k := 0) rfl rfl rfl
@[simp] theorem tA_1 : fIx (tA A) (.int 1) h = .ok (.v (nD A.st)) h := fIx_q (k := 1) rfl rfl rfl
@[simp] theorem tA_2 : fIx (tA A) (.int 2) h = .ok (.v (lN A.fin)) h := fIx_q (k := 2) rfl rfl rfl
@[simp] theorem tA_3 : fIx (tA A) (.int 3) h = .ok (.v (.lst (A.rows.map lN))) h := fIx_q (k := 3) rfl rfl rfl
theorem tA_row (a : AuOk A r) (hs : s < r) : fIx (.lst (A.rows.map lN)) (nD s) h = .ok (.v (lN (A.row s))) h := fIx_q (k := s) rfl rfl (by rw [List.getElem?_map, a.row_get hs]; rfl)
theorem tA_go (a : AuOk A r) (hs : s < r) (hl : l < A.n) : fIx (lN (A.row s)) (nD l) h = .ok (.v (nD (A.go s l))) h := fIx_q (k := l) rfl rfl (by rw [List.getElem?_map, a.go_get hs hl]; rfl)
theorem oA_row (a : AuOk A r) (hs : s < r) : fIx (.tup (A.rows.map wD)) (nD s) h = .ok (.v (wD (A.row s))) h := fIx_q (k := s) rfl rfl (by rw [List.getElem?_map, a.row_get hs]; rfl)
theorem oA_go (a : AuOk A r) (hs : s < r) (hl : l < A.n) : fIx (wD (A.row s)) (nD l) h = .ok (.v (nD (A.go s l))) h := fIx_q (k := l) rfl rfl (by rw [List.getElem?_map, a.go_get hs hl]; rfl)
@[simp] theorem fIn_l (w : List Nat) (n : Nat) (h : Own) : fIn (nD n) (lN w) h = .ok (.v (.bl (has w n))) h := fIn_q' n h rfl
@[simp] theorem fNotIn_l (w : List Nat) (n : Nat) (h : Own) : fNotIn (nD n) (lN w) h = .ok (.v (.bl (!has w n))) h := by
  rw [fNotIn_q (ds := w.map nD) rfl rfl (flat_nDs w), anyD]; rfl
@[simp] theorem pD_0 {p : Nat × Nat} : fIx (pD p) (.int 0) h = .ok (.v (nD p.1)) h := fIx_q (k := 0) rfl rfl rfl
@[simp] theorem pD_1 {p : Nat × Nat} : fIx (pD p) (.int 1) h = .ok (.v (nD p.2)) h := fIx_q (k := 1) rfl rfl rfl
@[simp] theorem nrf_tA : nrf (tA A) = true := by simp [tA, nrf, nrfs]
@[simp] theorem nrf_oA : nrf (oA A) = true := by simp [oA, nrf, nrfs]
end
end Z
set_option Elab.async false
set_option linter.all false
set_option maxRecDepth 100000
set_option maxHeartbeats 2000000
/-! Z47: o[i] op= e, o an own list or dict. -/
namespace Z
open PySem PySem.Spec L2
section
variable {ca : Cn} {X : Cx} {W : WF} {pos : Pos} {e a b c : Expr}
def fGet (d k : D) (h : Own) : Option D := match asL h d, k with
  | some ds, .int i => if 0 ≤ i then ds[i.toNat]? else none
  | some _, _ => none
  | none, _ => match askD h d k with
    | some (some v) => some v
    | _ => none
def rGetA (K : PySem.W.Frag) : V → V → Hp → VK → Prop := fun o i H Q => (∃ p xs k v, o = .ref p ∧ i = .int k ∧ SqL K H p xs ∧ 0 ≤ k ∧ xs[k.toNat]? = some v ∧ Q v H) ∨ ∃ p v, o = .ref p ∧ DGet H p i (some v) ∧ Q v H
theorem get_any (hu : X.A.units + 1 < cLine) : PGet X (rGetA X.K) := by
  intro pins s σ H o i ov iv Q I ro ri h
  rcases h with ⟨p, xs, k, v, rfl, rfl, hq, h0, hx, q⟩ | ⟨p, v, rfl, g, q⟩
  · cases ro
    obtain ⟨t, rfl⟩ := ri
    obtain ⟨its, r, pl, hz⟩ := I.list hq
    obtain ⟨w, ew, rw'⟩ := r.get hx
    have hl := r.length
    have hn := line63
    have hk : k.toNat < xs.length := (List.getElem?_eq_some_iff.mp hx).1
    exact PySem.wpAny_getItem_list pl.isList h0 (by omega) (by simpa using ew) ⟨v, H, I, rw', q⟩
  · cases ro
    exact d_getItem hu I g ri fun w' s' I' rw' => ⟨v, H, I', rw', q⟩
theorem fGet_ok {K : PySem.W.Frag} {μ : List Addr} {F H : Hp} {h : Own} {vo vi : V} {o i v : D} (R : RelH ca μ F h H) (Vo : VR ca μ F vo o) (Vi : VR ca μ F vi i) (e : fGet o i h = some v) : ∃ w, VR ca μ F w v ∧ ∀ Q : VK, Q w H → rGetA K vo vi H Q := by
  unfold fGet at e
  split at e
  · rename_i ds k e1
    obtain ⟨p, vs, rfl, q, r⟩ := asL_ok R Vo e1
    cases Vi
    by_cases h0 : 0 ≤ k
    · rw [if_pos h0] at e
      obtain ⟨w, ew, rw'⟩ := r.get e
      exact ⟨w, rw', fun Q hq => .inl ⟨p, vs, k, w, rfl, rfl, SqL.of q, h0, ew, hq⟩⟩
    · rw [if_neg h0] at e; cases e
  · cases e
  · split at e
    · rename_i v' e2
      cases e
      obtain ⟨p, ov, rfl, g, ro⟩ := askD_ok R Vo Vi e2
      obtain ⟨w, rfl, rw'⟩ := ro
      exact ⟨w, rw', fun Q hq => .inr ⟨p, w, rfl, g, hq⟩⟩
    · cases e
def sAugS (g : F2) (o i x : ED) : ST := sE o fun d τ h => sE i (fun k τ h => match fGet d k h with
  | some v => sE x (fun y τ h => sE (ed fun _ h => g v y h) (fun z τ h => match fPut τ.b d k z h with
    | some h1 => .next τ.s h1
    | none => .stuck) τ h) τ h
  | none => .stuck) τ h
theorem ss_augS {o i : Expr} {op : Operator} {r : R2} {g : F2} {tpos : Pos} {xo xi x : ED} (hu : X.A.units + 1 < cLine) (ho : SD ca X W o xo) (hi : SD ca X W i xi) (hx : SD ca X W e x) (hop : OpR X (inplaceOp op) r) (lk : Lk2 ca g r)
    (ha : ∀ ov iv new, augStore i ov iv new = (do holding [new, ov, iv] (setItem ov iv new); release [new, ov, iv] []; pure .next)) : SS ca X W (.AugAssign (.Subscript o i tpos) op e pos) (sAugS g xo xi x) :=
  PS.imp (ps_augS ho hi (get_any hu) hx hop (set_any hu) ha) fun D σ H ⟨μ, F, τ, h, A, p⟩ => ⟨μ, F, τ, h, A, (sE_post A p).imp fun d μ1 F1 H1 h1 E1 R1 q vo Vo => by
    have A1 := A.ext E1 R1
    refine ⟨μ1, F1, τ, h1, A1, (sE_post A1 q).imp fun k μ2 F2 H2 h2 E2 R2 q2 vi Vi => ?_⟩
    have A2 := A1.ext E2 R2
    cases eg : fGet d k h2 with
    | none => rw [eg] at q2; exact q2.elim
    | some v =>
      rw [eg] at q2
      obtain ⟨w, rw', gq⟩ := fGet_ok (K := X.K) R2 (E2.vr Vo) Vi eg
      refine gq _ ⟨μ2, F2, τ, h2, A2, (sE_post A2 q2).imp fun y μ3 F3 H3 h3 E3 R3 q3 vy Vy => ?_⟩
      have A3 := A2.ext E3 R3
      have q4 := sE_post A3 q3
      refine lk τ.b μ3 F3 H3 h3 (wx ca W σ) w vy v y _ R3 (E3.vr rw') Vy A3.bl (frz_post (Q := fun z H4 => rSetA vo vi z H4 fun H5 => D.nx σ H5) (q4.imp fun z μ4 F4 H4 h4 E4 R4 q5 vz Vz => ?_))
      have A4 := A3.ext E4 R4
      cases ep : fPut τ.b d k z h4 with
      | none => rw [ep] at q5; exact q5.elim
      | some h5 =>
        rw [ep] at q5
        exact fPut_ok R4 (E4.vr (E3.vr (E2.vr Vo))) (E4.vr (E3.vr Vi)) Vz ep fun H5 R5 E5 => q5 μ4 F4 H5 σ E5 R5 (E5.sr A4.sl)⟩
@[simp] theorem sAugS_eq {g : F2} {o i x : ED} {τ : Fm} {h : Own} : sAugS g o i x τ h = sE o (fun d τ h => sE i (fun k τ h => match fGet d k h with
  | some v => sE x (fun y τ h => sE (ed fun _ h => g v y h) (fun z τ h => match fPut τ.b d k z h with
    | some h1 => .next τ.s h1
    | none => .stuck) τ h) τ h
  | none => .stuck) τ h) τ h := rfl
theorem fGet_lst {H : Own} {n k : Nat} {ds : List D} {d : D} (e : H[n]? = some (.lst ds)) (hk : ds[k]? = some d) : fGet (.ref n) (.int (k : Int)) H = some d := by
  unfold fGet
  rw [asL_ref e]
  dsimp only
  rw [if_pos (by omega), Int.toNat_natCast]
  exact hk
/-! ### t * n, t a tuple -/
end
end Z
set_option Elab.async false
set_option linter.all false
set_option maxRecDepth 100000
set_option maxHeartbeats 2000000
/-! Z48: t * n, t a tuple, n at least 1. -/
namespace Z
open PySem PySem.Spec L2
/-- once: the tuple itself -/
theorem tuple_once (l : Addr) (items : Array Value) (n : Nat) (dd : Option Addr) (sl : Array (Option Value)) (u : Tok) :
    Meets (Builtin.«tuple.__mul__» ⟨[.ref l, .int 1 u], []⟩) (fun _ R s => s.heap.get? l = some { cls := .type "tuple", dict := dd, data := .seq items n, slots := sl } ∧ R (.ok (.ret (.ref l))) s) :=
  .of_wp fun prog w A R s h => by
    obtain ⟨hp, g, d, tk, os⟩ := s
    obtain ⟨hl, h⟩ := h
    have f1 := AutoSeq1.idx_int
    have c0 : (decide ((1 : Int) < -(2 ^ 63)) || decide ((1 : Int) ≥ 2 ^ 63)) = false := by decide
    have c1 : (items.isEmpty || (1 : Int) == 1) = true := by simp
    wp_walk using wpAny_loadPart' hl
    repeat (first
      | (refine wpAny_ite_false (decide_eq_false (by rw [c0]; exact Bool.false_ne_true)) ?_; wp_walk using wpAny_loadPart' hl)
      | (refine wpAny_ite_true (decide_eq_true c1) ?_; wp_walk using wpAny_loadPart' hl))
    exact ⟨_, rfl, h⟩
def rRepT1 (K : PySem.W.Frag) : R2 := fun x y H Q => ∃ l xs, x = .ref l ∧ y = .int 1 ∧ SqT K H l xs ∧ Q (.ref l) H
section
variable {X : Cx}
theorem op_repT1 : OpR X (binaryOp .Mult) (rRepT1 X.K) := by
  intro pins s σ H x y v u Q I rx ry h
  obtain ⟨l, xs, rfl, rfl, hT, q⟩ := h
  cases rx
  obtain ⟨t, rfl⟩ := ry
  obtain ⟨its, r, ⟨⟨cls, dd, data, sl⟩, ho, hc, n, hd⟩, hs⟩ := I.tuple hT
  simp only at hc hd
  subst hc hd
  exact wpAny_binaryOp_repeat_ref (T := "tuple") (U := "int") (by decide) ⟨_, ho, rfl⟩ (fun s' => typeIs_int s' 1 t) noFill_tuple_mul F.fills_int_mul F.slot_int_rmul repeat_tuple F.slot_int_index.lookup
    (call_meets F.slot_int_rmul (typeIs_int s 1 t) F.entry_int_rmul (F.args_int_rmul_2 _ _) (int_rmul_tuple 1 t l its.toArray n dd sl)
      ⟨ho, rfl, ⟨_, ho, rfl⟩, call_meets F.slot_tuple_mul ⟨_, ho, rfl⟩ F.entry_tuple_mul (F.args_tuple_mul_2 _ _) (tuple_once l its.toArray n dd sl t) ⟨ho, ⟨.ref l, H, I, rfl, q⟩⟩⟩)
end
section
variable {ca : Cn} {X : Cx}
def fRepT : F2 := fun x y h => match x, y with
  | .tup ds, .int k => if k = 1 then .ok (.v (.tup ds)) h else if ds ≠ [] ∧ 2 ≤ k ∧ k ≤ 1000 ∧ ds.length ≤ 1000 then .ok (.v (.tup (List.replicate k.toNat ds).flatten)) h else .stuck
  | _, _ => .stuck
theorem VRs.repF {μ : List Addr} {F : Hp} {vs : List V} {ds : List D} (r : VRs ca μ F vs ds) : ∀ k : Nat, VRs ca μ F (List.replicate k vs).flatten (List.replicate k ds).flatten
  | 0 => .nil
  | k + 1 => by
    rw [List.replicate_succ, List.replicate_succ, List.flatten_cons, List.flatten_cons]
    exact r.append (VRs.repF r k)
theorem lk_repT {K : PySem.W.Frag} : Lk2 ca fRepT (fun x y H Q => rRepT1 K x y H Q ∨ L2.rRepT K x y H Q) := by
  intro b μ F H h Wx x y c d Q R V1 V2 _ p
  unfold fRepT at p
  split at p
  · rename_i ds k
    cases V2
    cases V1 with
    | @tup a vs _ q r =>
      by_cases hk : k = 1
      · rw [if_pos hk] at p
        subst hk
        exact .inl ⟨a, vs, rfl, rfl, SqT.of (R.fz _ _ q), p.ok R _ (.tup q r)⟩
      · rw [if_neg hk] at p
        split at p
        · rename_i hc
          obtain ⟨h1, h2, h3, h4⟩ := hc
          have ll := r.length
          refine .inr ⟨a, k, vs, rfl, rfl, SqT.of (R.fz _ _ q), ?_, h2, h3, by omega, fun l hl => ?_⟩
          · rintro rfl
            exact h1 (List.length_eq_zero_iff.mp ll.symm)
          have hF : F l = none := by
            cases q : F l with
            | none => rfl
            | some w => have := R.fz _ _ q; rw [hl] at this; cases this
          have hm : l ∉ μ := fun z => R.dom l z hl
          have R1 : RelH ca μ (upd F l (.tup (List.replicate k.toNat vs).flatten)) h (upd H l (.tup (List.replicate k.toNat vs).flatten)) := (R.upd hl).freeze upd_same hm hF
          have E1 : Ext b μ F H h μ (upd F l (.tup (List.replicate k.toNat vs).flatten)) (upd H l (.tup (List.replicate k.toNat vs).flatten)) h := (Ext.refl.upd hl).freeze hl hF
          exact p μ _ _ E1 R1 _ (.tup upd_same ((E1.vrs r).repF k.toNat))
        · exact p.elim
    | _ => exact (show False from by assumption)
  · exact p.elim
noncomputable def fMulT : F2 := orF fMulA fRepT
theorem op_mulT : OpR X (binaryOp .Mult) (fun x y H Q => (rI CMul (fun i j => .int (i * j)) x y H Q ∨ rRep x y H Q) ∨ (rRepT1 X.K x y H Q ∨ L2.rRepT X.K x y H Q)) := op_mulA.or (op_repT1.or op_repT)
theorem lk_mulT {K : PySem.W.Frag} : Lk2 ca fMulT (fun x y H Q => (rI CMul (fun i j => .int (i * j)) x y H Q ∨ rRep x y H Q) ∨ (rRepT1 K x y H Q ∨ L2.rRepT K x y H Q)) := lk_mulA.or lk_repT
end
end Z
set_option Elab.async false
set_option linter.all false
set_option maxRecDepth 100000
/-! V1: views of words, of views, what knows of an event: plain. -/
namespace NV
/-- what is kept, from the right: what P asks for, and what meets something kept -/
def G (m : Nat → Nat → Bool) : List Nat → (Nat → Bool) → List Nat
  | [], _ => []
  | x :: w, P => if P x || (G m w P).any (m x) then x :: G m w P else G m w P
section
variable {m : Nat → Nat → Bool}
def hk (m : Nat → Nat → Bool) (x : Nat) (w : List Nat) (P : Nat → Bool) : Bool := P x || (G m w P).any (m x)
theorem G_cons (x : Nat) (w : List Nat) (P : Nat → Bool) : G m (x :: w) P = if hk m x w P = true then x :: G m w P else G m w P := rfl
theorem hk_iff {x : Nat} {w : List Nat} {P : Nat → Bool} : hk m x w P = true ↔ P x = true ∨ ∃ y ∈ G m w P, m x y = true := by
  unfold hk
  rw [Bool.or_eq_true, List.any_eq_true]
theorem G_mem {w : List Nat} {P : Nat → Bool} : ∀ x ∈ G m w P, x ∈ w := by
  induction w with
  | nil => intro x hx; cases hx
  | cons a w ih =>
    intro x hx
    rw [G_cons] at hx
    split at hx
    · rcases List.mem_cons.mp hx with rfl | hx
      · exact List.mem_cons_self
      · exact List.mem_cons_of_mem _ (ih x hx)
    · exact List.mem_cons_of_mem _ (ih x hx)
theorem G_len {w : List Nat} {P : Nat → Bool} : (G m w P).length ≤ w.length := by
  induction w with
  | nil => exact Nat.le_refl _
  | cons a w ih =>
    rw [G_cons]
    split <;> simp <;> omega
theorem G_congr {w : List Nat} {P Q : Nat → Bool} (h : ∀ x ∈ w, P x = Q x) : G m w P = G m w Q := by
  induction w with
  | nil => rfl
  | cons a w ih =>
    have e := ih fun x hx => h x (List.mem_cons_of_mem _ hx)
    rw [G_cons, G_cons]
    unfold hk
    rw [e, h a List.mem_cons_self]
/-- twice is once -/
theorem G_idem (w : List Nat) (P : Nat → Bool) : G m (G m w P) P = G m w P := by
  induction w with
  | nil => rfl
  | cons a w ih =>
    rw [G_cons]
    split
    · rename_i h
      rw [G_cons]
      have : hk m a (G m w P) P = true := by
        unfold hk at h ⊢
        rw [ih]
        exact h
      rw [if_pos this, ih]
    · exact ih
/-! a family -/
section
variable {ι : Type} {w : List Nat}
/-- the greatest of the counts -/
structure Mx (I : List ι) (c : ι → Nat) (t : Nat) : Prop where
  le : ∀ i ∈ I, c i ≤ t
  eq : ∃ i ∈ I, c i = t
theorem Mx.uniq {I : List ι} {c : ι → Nat} {s t : Nat} (a : Mx I c s) (b : Mx I c t) : s = t := by
  obtain ⟨i, hi, e⟩ := a.eq
  obtain ⟨j, hj, f⟩ := b.eq
  have h1 := b.le i hi
  have h2 := a.le j hj
  omega
/-- kept by one, kept by all together: the counts -/
theorem fam {I : List ι} (hI : I ≠ []) (K : ι → List Nat → List Nat) (U : List Nat → List Nat) (h : ι → Nat → List Nat → Bool) (u : Nat → List Nat → Bool) (b : Nat)
    (k0 : ∀ i, K i [] = []) (u0 : U [] = []) (k1 : ∀ i x w, K i (x :: w) = if h i x w = true then x :: K i w else K i w) (u1 : ∀ x w, U (x :: w) = if u x w = true then x :: U w else U w)
    (hu : ∀ x w, (∀ y, y ∈ U w ↔ ∃ i ∈ I, y ∈ K i w) → (u x w = true ↔ ∃ i ∈ I, h i x w = true)) (hb : ∀ i ∈ I, ∀ w, b ∈ K i w → h i b w = true) : ∀ w, (∀ y, y ∈ U w ↔ ∃ i ∈ I, y ∈ K i w) ∧ Mx I (fun i => (K i w).count b) ((U w).count b)
  | [] => by
    obtain ⟨i, hi⟩ := List.exists_mem_of_ne_nil _ hI
    rw [u0]
    refine ⟨fun y => ⟨fun z => (by cases z), fun ⟨i, _, z⟩ => (by rw [k0] at z; cases z)⟩, fun i _ => (by rw [k0]; exact Nat.le_refl _), i, hi, by rw [k0]⟩
  | x :: w => by
    obtain ⟨m1, mx⟩ := fam hI K U h u b k0 u0 k1 u1 hu hb w
    have hx := hu x w m1
    constructor
    · intro y
      rw [u1]
      constructor
      · intro z
        split at z
        · rename_i q
          rcases List.mem_cons.mp z with rfl | z
          · obtain ⟨i, hi, e⟩ := hx.mp q
            exact ⟨i, hi, by rw [k1, if_pos e]; exact List.mem_cons_self⟩
          · obtain ⟨i, hi, e⟩ := (m1 y).mp z
            refine ⟨i, hi, ?_⟩
            rw [k1]
            split
            · exact List.mem_cons_of_mem _ e
            · exact e
        · obtain ⟨i, hi, e⟩ := (m1 y).mp z
          refine ⟨i, hi, ?_⟩
          rw [k1]
          split
          · exact List.mem_cons_of_mem _ e
          · exact e
      · rintro ⟨i, hi, z⟩
        rw [k1] at z
        have inw : y ∈ K i w → y ∈ (if u x w = true then x :: U w else U w) := fun q => by
          have := (m1 y).mpr ⟨i, hi, q⟩
          split
          · exact List.mem_cons_of_mem _ this
          · exact this
        split at z
        · rename_i q
          rcases List.mem_cons.mp z with rfl | z
          · rw [if_pos (hx.mpr ⟨i, hi, q⟩)]
            exact List.mem_cons_self
          · exact inw z
        · exact inw z
    · by_cases hxb : x = b
      · subst hxb
        by_cases q : u x w = true
        · rw [u1, if_pos q]
          refine ⟨fun i hi => ?_, ?_⟩
          · have := mx.le i hi
            try dsimp only at this ⊢
            rw [k1]
            split
            · simp; exact this
            · simp; omega
          · by_cases z : (U w).count x = 0
            · obtain ⟨i, hi, e⟩ := hx.mp q
              have := mx.le i hi
              try dsimp only at this
              refine ⟨i, hi, ?_⟩
              try dsimp only
              rw [k1, if_pos e]
              simp
              omega
            · obtain ⟨i, hi, e⟩ := mx.eq
              try dsimp only at e
              have hin : x ∈ K i w := List.count_pos_iff.mp (by omega)
              refine ⟨i, hi, ?_⟩
              try dsimp only
              rw [k1, if_pos (hb i hi w hin)]
              simp
              exact e
        · have q' : u x w = false := by cases e : u x w with | true => exact absurd e q | false => rfl
          rw [u1, if_neg q]
          have no : ∀ i ∈ I, ¬ h i x w = true := fun i hi e => q (hx.mpr ⟨i, hi, e⟩)
          refine ⟨fun i hi => ?_, ?_⟩
          · try dsimp only
            rw [k1, if_neg (no i hi)]
            exact mx.le i hi
          · obtain ⟨i, hi, e⟩ := mx.eq
            refine ⟨i, hi, ?_⟩
            try dsimp only
            rw [k1, if_neg (no i hi)]
            exact e
      · have cu : (U (x :: w)).count b = (U w).count b := by
          rw [u1]
          split
          · rw [List.count_cons_of_ne hxb]
          · rfl
        have ck : ∀ i, (K i (x :: w)).count b = (K i w).count b := fun i => by
          rw [k1]
          split
          · rw [List.count_cons_of_ne hxb]
          · rfl
        rw [cu]
        refine ⟨fun i hi => ?_, ?_⟩
        · rw [ck]; exact mx.le i hi
        · obtain ⟨i, hi, e⟩ := mx.eq
          exact ⟨i, hi, by rw [ck]; exact e⟩
/-- all that is asked for by one of them -/
def orP (I : List ι) (P : ι → Nat → Bool) : Nat → Bool := fun x => I.any fun i => P i x
theorem union {I : List ι} (hI : I ≠ []) (P : ι → Nat → Bool) {b : Nat} (hb : m b b = true) (w : List Nat) : (∀ y, y ∈ G m w (orP I P) ↔ ∃ i ∈ I, y ∈ G m w (P i)) ∧ Mx I (fun i => (G m w (P i)).count b) ((G m w (orP I P)).count b) := by
  refine fam hI (fun i w => G m w (P i)) (fun w => G m w (orP I P)) (fun i x w => hk m x w (P i)) (fun x w => hk m x w (orP I P)) b (fun _ => rfl) rfl (fun i x w => G_cons x w (P i)) (fun x w => G_cons x w _) (fun x w h => ?_) (fun i hi w h => ?_) w
  · rw [hk_iff]
    unfold orP
    rw [List.any_eq_true]
    constructor
    · rintro (⟨i, hi, e⟩ | ⟨y, hy, e⟩)
      · exact ⟨i, hi, hk_iff.mpr (.inl e)⟩
      · obtain ⟨i, hi, z⟩ := (h y).mp hy
        exact ⟨i, hi, hk_iff.mpr (.inr ⟨y, z, e⟩)⟩
    · rintro ⟨i, hi, e⟩
      rcases hk_iff.mp e with e | ⟨y, hy, e⟩
      · exact .inl ⟨i, hi, e⟩
      · exact .inr ⟨y, (h y).mpr ⟨i, hi, hy⟩, e⟩
  · exact hk_iff.mpr (.inr ⟨b, h, hb⟩)
/-- what is kept of what is kept -/
theorem G2_cons (x : Nat) (w : List Nat) (P Q : Nat → Bool) : G m (G m (x :: w) P) Q = if (hk m x w P && hk m x (G m w P) Q) = true then x :: G m (G m w P) Q else G m (G m w P) Q := by
  rw [G_cons]
  by_cases h : hk m x w P = true
  · rw [if_pos h, G_cons, h, Bool.true_and]
  · rw [if_neg h]
    have h' : hk m x w P = false := by cases e : hk m x w P with | true => exact absurd e h | false => rfl
    rw [h', Bool.false_and, if_neg (by decide)]
theorem union2 {I : List ι} (hI : I ≠ []) (P : ι → Nat → Bool) (Q : Nat → Bool) {b : Nat} (hb : m b b = true) (w : List Nat) : (∀ y, y ∈ G m (G m w (orP I P)) Q ↔ ∃ i ∈ I, y ∈ G m (G m w (P i)) Q) ∧ Mx I (fun i => (G m (G m w (P i)) Q).count b) ((G m (G m w (orP I P)) Q).count b) := by
  have base := fun w => (union (m := m) hI P hb w).1
  refine fam hI (fun i w => G m (G m w (P i)) Q) (fun w => G m (G m w (orP I P)) Q) (fun i x w => hk m x w (P i) && hk m x (G m w (P i)) Q) (fun x w => hk m x w (orP I P) && hk m x (G m w (orP I P)) Q) b (fun _ => rfl) rfl (fun i x w => G2_cons x w (P i) Q) (fun x w => G2_cons x w _ Q) (fun x w h => ?_) (fun i hi w h => ?_) w
  · rw [Bool.and_eq_true]
    have lift : ∀ i ∈ I, ∀ y, y ∈ G m (G m w (P i)) Q → m x y = true → hk m x w (P i) = true := fun i hi y hy e => hk_iff.mpr (.inr ⟨y, G_mem y hy, e⟩)
    have hor : hk m x w (orP I P) = true ↔ ∃ i ∈ I, hk m x w (P i) = true := by
      rw [hk_iff]
      unfold orP
      rw [List.any_eq_true]
      constructor
      · rintro (⟨i, hi, e⟩ | ⟨y, hy, e⟩)
        · exact ⟨i, hi, hk_iff.mpr (.inl e)⟩
        · obtain ⟨i, hi, z⟩ := (base w y).mp hy
          exact ⟨i, hi, hk_iff.mpr (.inr ⟨y, z, e⟩)⟩
      · rintro ⟨i, hi, e⟩
        rcases hk_iff.mp e with e | ⟨y, hy, e⟩
        · exact .inl ⟨i, hi, e⟩
        · exact .inr ⟨y, (base w y).mpr ⟨i, hi, hy⟩, e⟩
    constructor
    · rintro ⟨h1, h2⟩
      rcases hk_iff.mp h2 with e | ⟨y, hy, e⟩
      · obtain ⟨i, hi, z⟩ := hor.mp h1
        exact ⟨i, hi, by rw [Bool.and_eq_true]; exact ⟨z, hk_iff.mpr (.inl e)⟩⟩
      · obtain ⟨i, hi, z⟩ := (h y).mp hy
        exact ⟨i, hi, by rw [Bool.and_eq_true]; exact ⟨lift i hi y z e, hk_iff.mpr (.inr ⟨y, z, e⟩)⟩⟩
    · rintro ⟨i, hi, z⟩
      rw [Bool.and_eq_true] at z
      refine ⟨hor.mpr ⟨i, hi, z.1⟩, ?_⟩
      rcases hk_iff.mp z.2 with e | ⟨y, hy, e⟩
      · exact hk_iff.mpr (.inl e)
      · exact hk_iff.mpr (.inr ⟨y, (h y).mpr ⟨i, hi, hy⟩, e⟩)
  · rw [Bool.and_eq_true]
    exact ⟨hk_iff.mpr (.inr ⟨b, G_mem b h, hb⟩), hk_iff.mpr (.inr ⟨b, h, hb⟩)⟩
end
/-! one letter more -/
/-- from the right, r is kept already -/
def Gr (m : Nat → Nat → Bool) (r : List Nat) : List Nat → (Nat → Bool) → List Nat
  | [], _ => r
  | x :: w, P => if P x || (Gr m r w P).any (m x) then x :: Gr m r w P else Gr m r w P
theorem G_snoc (w : List Nat) (a : Nat) (P : Nat → Bool) : G m (w ++ [a]) P = Gr m (if P a = true then [a] else []) w P := by
  induction w with
  | nil =>
    show (if P a || false then [a] else []) = _
    rw [Bool.or_false]
    rfl
  | cons x w ih =>
    rw [List.cons_append, G, Gr, ih]
theorem Gr_nil (w : List Nat) (P : Nat → Bool) : Gr m [] w P = G m w P := by
  induction w with
  | nil => rfl
  | cons x w ih => rw [Gr, G, ih]
theorem Gr_one {a : Nat} (w : List Nat) {P : Nat → Bool} (hP : ∀ x, P x = true → m x a = true) : Gr m [a] w P = G m w (fun x => m x a) ++ [a] := by
  induction w with
  | nil => rfl
  | cons x w ih =>
    rw [Gr, G, ih]
    have e : (P x || (G m w (fun x => m x a) ++ [a]).any (m x)) = (m x a || (G m w fun x => m x a).any (m x)) := by
      rw [List.any_append, List.any_cons, List.any_nil, Bool.or_false]
      cases q : P x with
      | true => rw [hP x q]; simp
      | false => rw [Bool.false_or, Bool.or_comm]
    rw [e]
    split <;> rfl
theorem G_snoc_no {w : List Nat} {a : Nat} {P : Nat → Bool} (h : P a = false) : G m (w ++ [a]) P = G m w P := by
  rw [G_snoc, if_neg (by rw [h]; decide), Gr_nil]
theorem G_snoc_yes {w : List Nat} {a : Nat} {P : Nat → Bool} (h : P a = true) (hP : ∀ x, P x = true → m x a = true) : G m (w ++ [a]) P = G m w (fun x => m x a) ++ [a] := by
  rw [G_snoc, if_pos h, Gr_one w hP]
end
/-! letters with places -/
section
variable (pl : Nat → List Nat)
def mt (a b : Nat) : Bool := (pl a).any fun p => (pl b).contains p
def hs (p : Nat) (x : Nat) : Bool := (pl x).contains p
variable {pl}
theorem mt_iff {a b : Nat} : mt pl a b = true ↔ ∃ p ∈ pl a, p ∈ pl b := by
  unfold mt
  rw [List.any_eq_true]
  constructor
  · rintro ⟨p, h1, h2⟩
    exact ⟨p, h1, by simpa using h2⟩
  · rintro ⟨p, h1, h2⟩
    exact ⟨p, h1, by simpa using h2⟩
theorem hs_iff {p x : Nat} : hs pl p x = true ↔ p ∈ pl x := by simp [hs]
theorem mt_self {a : Nat} (h : pl a ≠ []) : mt pl a a = true := by
  obtain ⟨p, hp⟩ := List.exists_mem_of_ne_nil _ h
  exact mt_iff.mpr ⟨p, hp, hp⟩
theorem mt_or (a : Nat) : (fun x => mt pl x a) = orP (pl a) (hs pl) := by
  funext x
  unfold orP
  rw [Bool.eq_iff_iff, mt_iff, List.any_eq_true]
  constructor
  · rintro ⟨p, h1, h2⟩
    exact ⟨p, h2, hs_iff.mpr h1⟩
  · rintro ⟨p, h1, h2⟩
    exact ⟨p, hs_iff.mp h2, h1⟩
/-- the view of a place -/
def vw (p : Nat) (w : List Nat) : List Nat := G (mt pl) w (hs pl p)
theorem vw_no {w : List Nat} {a p : Nat} (h : p ∉ pl a) : vw (pl := pl) p (w ++ [a]) = vw (pl := pl) p w := by
  refine G_snoc_no ?_
  cases e : hs pl p a with
  | true => exact absurd (hs_iff.mp e) h
  | false => rfl
theorem vw_yes {w : List Nat} {a p : Nat} (h : p ∈ pl a) : vw (pl := pl) p (w ++ [a]) = G (mt pl) w (orP (pl a) (hs pl)) ++ [a] := by
  unfold vw
  rw [G_snoc_yes (hs_iff.mpr h) fun x hx => mt_iff.mpr ⟨p, hs_iff.mp hx, h⟩, mt_or]
/-- what the matrix holds -/
def mc (w : List Nat) (p q b : Nat) : Nat := (vw (pl := pl) q (vw (pl := pl) p w)).count b
def lc (w : List Nat) (p b : Nat) : Nat := (vw (pl := pl) p w).count b
theorem vw_vw (w : List Nat) (p : Nat) : vw (pl := pl) p (vw (pl := pl) p w) = vw (pl := pl) p w := G_idem _ _
theorem mc_same (w : List Nat) (p b : Nat) : mc (pl := pl) w p p b = lc (pl := pl) w p b := by unfold mc lc; rw [vw_vw]
theorem mc_le (w : List Nat) (p q b : Nat) : mc (pl := pl) w p q b ≤ lc (pl := pl) w p b := by
  unfold mc lc
  generalize vw (pl := pl) p w = v
  unfold vw
  induction v with
  | nil => exact Nat.le_refl _
  | cons x v ih =>
    rw [G_cons]
    split
    · by_cases e : x = b
      · subst e; simp; exact ih
      · rw [List.count_cons_of_ne e, List.count_cons_of_ne e]; exact ih
    · by_cases e : x = b
      · subst e; simp; omega
      · rw [List.count_cons_of_ne e]; exact ih
theorem mc_no {w : List Nat} {a p : Nat} (h : p ∉ pl a) (q b : Nat) : mc (pl := pl) (w ++ [a]) p q b = mc (pl := pl) w p q b := by unfold mc; rw [vw_no h]
theorem lc_no {w : List Nat} {a p : Nat} (h : p ∉ pl a) (b : Nat) : lc (pl := pl) (w ++ [a]) p b = lc (pl := pl) w p b := by unfold lc; rw [vw_no h]
theorem count_snoc (u : List Nat) (a b : Nat) : (u ++ [a]).count b = u.count b + if a = b then 1 else 0 := by
  rw [List.count_append, List.count_singleton]
  by_cases e : a = b <;> simp [e]
/-- the new letter's row -/
theorem lc_yes {w : List Nat} {a p : Nat} (h : p ∈ pl a) {b : Nat} (hb : pl b ≠ []) : ∃ t, Mx (pl a) (fun p => lc (pl := pl) w p b) t ∧ lc (pl := pl) (w ++ [a]) p b = t + if a = b then 1 else 0 := by
  have hI : pl a ≠ [] := by rintro e; rw [e] at h; cases h
  refine ⟨_, (union (m := mt pl) hI (hs pl) (mt_self hb) w).2, ?_⟩
  unfold lc
  rw [vw_yes h, count_snoc]
theorem mc_yes {w : List Nat} {a p q : Nat} (h : p ∈ pl a) (hq : q ∈ pl a) {b : Nat} (hb : pl b ≠ []) : ∃ t, Mx (pl a) (fun p => lc (pl := pl) w p b) t ∧ mc (pl := pl) (w ++ [a]) p q b = t + if a = b then 1 else 0 := by
  obtain ⟨t, h1, h2⟩ := lc_yes (w := w) h hb
  refine ⟨t, h1, ?_⟩
  rw [← h2]
  unfold mc lc
  rw [vw_yes h, vw_yes hq, G_idem]
theorem mc_half {w : List Nat} {a p q : Nat} (h : p ∈ pl a) (hq : q ∉ pl a) {b : Nat} (hb : pl b ≠ []) : Mx (pl a) (fun p => mc (pl := pl) w p q b) (mc (pl := pl) (w ++ [a]) p q b) := by
  have hI : pl a ≠ [] := by rintro e; rw [e] at h; cases h
  have := (union2 (m := mt pl) hI (hs pl) (hs pl q) (mt_self hb) w).2
  unfold mc
  rw [vw_yes h, vw_no hq]
  exact this
/-! who knows of an event -/
/-- place p knows of the event x that w comes behind -/
def kn (pl : Nat → List Nat) (x : Nat) (w : List Nat) (p : Nat) : Bool := hk (mt pl) x w (hs pl p)
theorem kn_no {x a p : Nat} {w : List Nat} (h : p ∉ pl a) : kn pl x (w ++ [a]) p = kn pl x w p := by
  unfold kn hk
  have := vw_no (pl := pl) (w := w) h
  unfold vw at this
  rw [this]
theorem kn_yes {x a p : Nat} {w : List Nat} (h : p ∈ pl a) (ha : pl a ≠ []) : kn pl x (w ++ [a]) p = (pl a).any fun p' => kn pl x w p' := by
  have u := (union (m := mt pl) ha (hs pl) (mt_self ha) w).1
  rw [Bool.eq_iff_iff, List.any_eq_true]
  unfold kn
  have e : G (mt pl) (w ++ [a]) (hs pl p) = G (mt pl) w (orP (pl a) (hs pl)) ++ [a] := vw_yes h
  constructor
  · intro z
    rcases hk_iff.mp z with z | ⟨y, hy, z⟩
    · exact ⟨p, h, hk_iff.mpr (.inl z)⟩
    · rw [e] at hy
      rcases List.mem_append.mp hy with hy | hy
      · obtain ⟨i, hi, q⟩ := (u y).mp hy
        exact ⟨i, hi, hk_iff.mpr (.inr ⟨y, q, z⟩)⟩
      · rw [List.mem_singleton.mp hy] at z
        obtain ⟨r, h1, h2⟩ := mt_iff.mp z
        exact ⟨r, h2, hk_iff.mpr (.inl (hs_iff.mpr h1))⟩
  · rintro ⟨i, hi, z⟩
    refine hk_iff.mpr ?_
    rcases hk_iff.mp z with z | ⟨y, hy, z⟩
    · exact .inr ⟨a, by rw [e]; simp, mt_iff.mpr ⟨i, hs_iff.mp z, hi⟩⟩
    · exact .inr ⟨y, by rw [e]; exact List.mem_append_left _ ((u y).mpr ⟨i, hi, hy⟩), z⟩
/-- all places that know -/
def KS (pl : Nat → List Nat) (P : Nat) (x : Nat) (w : List Nat) : List Nat := (List.range P).filter (kn pl x w)
/-- who knows next -/
def nk (pl : Nat → List Nat) (P : Nat) (k : List Nat) (a : Nat) : List Nat := if (pl a).any (fun p => k.contains p) then (List.range P).filter (fun p => k.contains p || (pl a).contains p) else k
theorem KS_snoc {P x a : Nat} {w : List Nat} (ha : pl a ≠ []) (hP : ∀ p ∈ pl a, p < P) : KS pl P x (w ++ [a]) = nk pl P (KS pl P x w) a := by
  have hc : ∀ p, (KS pl P x w).contains p = (decide (p < P) && kn pl x w p) := by
    intro p
    unfold KS
    rw [Bool.eq_iff_iff, List.contains_iff_mem, List.mem_filter, List.mem_range, Bool.and_eq_true, decide_eq_true_eq]
  have ea : (pl a).any (fun p => (KS pl P x w).contains p) = (pl a).any fun p' => kn pl x w p' := by
    rw [Bool.eq_iff_iff, List.any_eq_true, List.any_eq_true]
    constructor
    · rintro ⟨p, hp, e⟩
      rw [hc, Bool.and_eq_true] at e
      exact ⟨p, hp, e.2⟩
    · rintro ⟨p, hp, e⟩
      exact ⟨p, hp, by rw [hc, Bool.and_eq_true]; exact ⟨decide_eq_true (hP p hp), e⟩⟩
  unfold nk
  rw [ea]
  cases q : (pl a).any fun p' => kn pl x w p' with
  | true =>
    rw [if_pos rfl]
    show (List.range P).filter _ = _
    apply List.filter_congr
    intro p hp
    rw [List.mem_range] at hp
    rw [hc, decide_eq_true hp, Bool.true_and]
    by_cases h : p ∈ pl a
    · rw [kn_yes h ha, q]
      simp [h]
    · rw [kn_no h]
      simp [h]
  | false =>
    rw [if_neg (by decide)]
    show (List.range P).filter _ = (List.range P).filter _
    apply List.filter_congr
    intro p hp
    by_cases h : p ∈ pl a
    · rw [kn_yes h ha, q]
      have := List.any_eq_false.mp q p h
      simpa using this
    · rw [kn_no h]
theorem nk_len {P a : Nat} {k : List Nat} (hk : k.Nodup) (hP : ∀ p ∈ k, p < P) : k.length ≤ (nk pl P k a).length ∧ (nk pl P k a = k ∨ k.length < (nk pl P k a).length ∨ (nk pl P k a).length = k.length ∧ ∀ p, p ∈ nk pl P k a ↔ p ∈ k) := by
  unfold nk
  split
  · have sub : ∀ p ∈ k, p ∈ (List.range P).filter (fun p => k.contains p || (pl a).contains p) := fun p hp => by
      rw [List.mem_filter, List.mem_range]
      exact ⟨hP p hp, by simp [hp]⟩
    have le := CL.nodup_len hk sub
    refine ⟨le, ?_⟩
    rcases Nat.lt_or_eq_of_le le with h | h
    · exact .inr (.inl h)
    · refine .inr (.inr ⟨h.symm, fun p => ⟨fun hp => ?_, sub p⟩⟩)
      have nd : ((List.range P).filter (fun p => k.contains p || (pl a).contains p)).Nodup := List.nodup_range.filter _
      refine Classical.byContradiction fun hn => ?_
      have := CL.nodup_len (l := p :: k) (List.nodup_cons.mpr ⟨hn, hk⟩) (U := (List.range P).filter (fun p => k.contains p || (pl a).contains p)) fun q hq => by
        rcases List.mem_cons.mp hq with rfl | hq
        · exact hp
        · exact sub q hq
      simp only [List.length_cons] at this
      omega
  · exact ⟨Nat.le_refl _, .inl rfl⟩
end
end NV
set_option Elab.async false
set_option linter.all false
set_option maxRecDepth 100000
set_option maxHeartbeats 8000000
namespace K67
open PySem PySem.Spec L2 Z
def top (i : Nat) : Stmt := PySem.Challenge.pw_tracetalk_k67_nested_news.main.body.getD i (.Pass ⟨0, 0, 0, 0⟩)
/-- which names are not the module's own -/
structure Bt (mg : Str → Option Value) : Prop where
  all : mg "all" = none
  any : mg "any" = none
  bool : mg "bool" = none
  dict : mg "dict" = none
  enumerate : mg "enumerate" = none
  int : mg "int" = none
  isinstance : mg "isinstance" = none
  len : mg "len" = none
  list : mg "list" = none
  «max» : mg "max" = none
  range : mg "range" = none
  set : mg "set" = none
  sorted : mg "sorted" = none
  str : mg "str" = none
  tuple : mg "tuple" = none
theorem b_all : bootBuiltins "all" = some (.builtin "all") := by decide +kernel
theorem b_any : bootBuiltins "any" = some (.builtin "any") := by decide +kernel
theorem b_bool : bootBuiltins "bool" = some (.type "bool") := by decide +kernel
theorem b_dict : bootBuiltins "dict" = some (.type "dict") := by decide +kernel
theorem b_enumerate : bootBuiltins "enumerate" = some (.type "enumerate") := by decide +kernel
theorem b_int : bootBuiltins "int" = some (.type "int") := by decide +kernel
theorem b_isinstance : bootBuiltins "isinstance" = some (.builtin "isinstance") := by decide +kernel
theorem b_len : bootBuiltins "len" = some (.builtin "len") := by decide +kernel
theorem b_list : bootBuiltins "list" = some (.type "list") := by decide +kernel
theorem b_max : bootBuiltins "max" = some (.builtin "max") := by decide +kernel
theorem b_range : bootBuiltins "range" = some (.type "range") := by decide +kernel
theorem b_set : bootBuiltins "set" = some (.type "set") := by decide +kernel
theorem b_sorted : bootBuiltins "sorted" = some (.builtin "sorted") := by decide +kernel
theorem b_str : bootBuiltins "str" = some (.type "str") := by decide +kernel
theorem b_tuple : bootBuiltins "tuple" = some (.type "tuple") := by decide +kernel
structure Cs (mg : Str → Option Value) : Prop where
  MOST_LETTERS : ∃ t, mg "MOST_LETTERS" = some (.int 6 t)
  MOST_PLACES : ∃ t, mg "MOST_PLACES" = some (.int 4 t)
section
variable {P : Program} {w : World} {K : PySem.W.Frag} {mg : Str → Option Value} {base : Heap} {ca : Cn}
abbrev s_fits : Stmt := top 6
theorem sc_fits : FnScope ["letter", "places", "k"] ["letter", "places"] (defScope s_fits) := ⟨rfl, rfl, rfl, by decide +kernel, rfl, by decide +kernel, by decide +kernel⟩
noncomputable def S_fits : ST := (sSeq (sIf (eTB (e2 fEq (ed (eA fLen (aCons (eVar 0) aNil))) (eC (.int 0)))) (sRet (ev (eC (.bl false)))) sPass)
  (sSeq (sFor (iR1 (aCons (ed (eA fLen (aCons (eVar 0) aNil))) aNil)) (tN 2) (sIf (bOr (eTB (e2 fLt (ed (e2 fIx (eVar 0) (eVar 2))) (eC (.int 0)))) (bOr (eTB (e2 fGe (ed (e2 fIx (eVar 0) (eVar 2))) (eVar 1))) (bAnd (eTB (e2 fGt (eVar 2) (eC (.int 0)))) (eTB (e2 fLe (ed (e2 fIx (eVar 0) (eVar 2))) (ed (e2 fIx (eVar 0) (ed (e2 fSub (eVar 2) (eC (.int 1))))))))))) (sRet (ev (eC (.bl false)))) sPass) [2])
  (sRet (ev (eC (.bl true))))))
noncomputable def B_fits : BD := body 3 S_fits
theorem ok_fits {f_ : Addr} {fd_ : FuncData} (F0 : Fun K "fits" "fits" s_fits f_ fd_) (bt : Bt mg) :
    FnOk P w K mg base (L2.CX P w) 1 f_ fd_ ["letter", "places"] (spB ca 2 B_fits) := by
  have N : (["letter", "places", "k"] : List Str).Nodup := sc_fits.nd
  refine def_ok F0 sc_fits fun cdv A outer s H E hr => ?_
  have hu65 : (cxOf (L2.CX P w) P w K mg base ["letter", "places", "k"] "fits" (defScope s_fits) f_ cdv A outer s H E).A.units + 65 < cLine := by have := hr.un; show (A.deeper _).units + 65 < cLine; omega
  have hu64 : (cxOf (L2.CX P w) P w K mg base ["letter", "places", "k"] "fits" (defScope s_fits) f_ cdv A outer s H E).A.units + 64 < cLine := by omega
  have hu1 : (cxOf (L2.CX P w) P w K mg base ["letter", "places", "k"] "fits" (defScope s_fits) f_ cdv A outer s H E).A.units + 1 < cLine := by omega
  have tk : Takes (cxOf (L2.CX P w) P w K mg base ["letter", "places", "k"] "fits" (defScope s_fits) f_ cdv A outer s H E) (fun cls d _ H' => E cls d H') := takes_of rfl rfl rfl rfl
  unfold S_fits
  exact (sss_cons (ss_if (sb_cmp (op_eqD hu64) lk_eq (SD.of (se_b (pe_callB cr_len rfl bt.len b_len (sa_cons (sd_var (pv 0)) sa_nil rfl)) lk_len)) sd_int (nomark _)) (sss_one (ss_ret (SE.of sd_bl))) sss_nil)
    (sss_cons (ss_for [2] (passes_of rfl) rfl (si_r1 (pi_range1 rfl bt.range (sa_cons (SD.of (se_b (pe_callB cr_len rfl bt.len b_len (sa_cons (sd_var (pv 0)) sa_nil rfl)) lk_len)) sa_nil rfl))) (sg_name (pg_name (i := 2) N rfl (by first | exact Or.inl rfl | exact Or.inr rfl))) (sss_one (ss_if (sb_w (sw_or (sb_cmp op_lt lk_lt (SD.of (se_ix hu1 (sd_var (pv 0)) (sd_var (pv 2)) (fun _ _ => rfl))) sd_int (nomark _)) (sw_or (sb_cmp op_ge lk_ge (SD.of (se_ix hu1 (sd_var (pv 0)) (sd_var (pv 2)) (fun _ _ => rfl))) (sd_var (pv 1)) (nomark _)) (sw_or1 (sb_w (sw_and (sb_cmp op_gt lk_gt (sd_var (pv 2)) sd_int (nomark _)) (sw_and1 (sb_cmp op_le lk_le (SD.of (se_ix hu1 (sd_var (pv 0)) (sd_var (pv 2)) (fun _ _ => rfl))) (SD.of (se_ix hu1 (sd_var (pv 0)) (SD.of (se_op op_sub lk_sub (sd_var (pv 2)) sd_int)) (fun _ _ => rfl))) (nomark _))))))))) (sss_one (ss_ret (SE.of sd_bl))) sss_nil)) (fun _ => rfl))
    (sss_one (ss_ret (SE.of sd_bl)))))
abbrev s_independent : Stmt := top 8
theorem sc_independent : FnScope ["alphabet", "first", "second", "place"] ["alphabet", "first", "second"] (defScope s_independent) := ⟨rfl, rfl, rfl, by decide +kernel, rfl, by decide +kernel, by decide +kernel⟩
noncomputable def S_independent : ST := (sSeq (sFor (iSeq (ed (e2 fIx (ed (e1 (fFld [0] 1) (eVar 0))) (eVar 1)))) (tN 3) (sIf (eTB (e2 fIn (eVar 3) (ed (e2 fIx (ed (e1 (fFld [0] 1) (eVar 0))) (eVar 2))))) (sRet (ev (eC (.bl false)))) sPass) [3])
  (sRet (ev (eC (.bl true)))))
noncomputable def B_independent : BD := body 4 S_independent
theorem ok_independent {f_ : Addr} {fd_ : FuncData} (F0 : Fun K "independent" "independent" s_independent f_ fd_) (C_Alphabet : ClF ca K 0 ["places", "letters"]) :
    FnOk P w K mg base (L2.CX P w) 1 f_ fd_ ["alphabet", "first", "second"] (spB ca 3 B_independent) := by
  have N : (["alphabet", "first", "second", "place"] : List Str).Nodup := sc_independent.nd
  refine def_ok F0 sc_independent fun cdv A outer s H E hr => ?_
  have hu65 : (cxOf (L2.CX P w) P w K mg base ["alphabet", "first", "second", "place"] "independent" (defScope s_independent) f_ cdv A outer s H E).A.units + 65 < cLine := by have := hr.un; show (A.deeper _).units + 65 < cLine; omega
  have hu64 : (cxOf (L2.CX P w) P w K mg base ["alphabet", "first", "second", "place"] "independent" (defScope s_independent) f_ cdv A outer s H E).A.units + 64 < cLine := by omega
  have hu1 : (cxOf (L2.CX P w) P w K mg base ["alphabet", "first", "second", "place"] "independent" (defScope s_independent) f_ cdv A outer s H E).A.units + 1 < cLine := by omega
  have tk : Takes (cxOf (L2.CX P w) P w K mg base ["alphabet", "first", "second", "place"] "independent" (defScope s_independent) f_ cdv A outer s H E) (fun cls d _ H' => E cls d H') := takes_of rfl rfl rfl rfl
  unfold S_independent
  exact (sss_cons (ss_for [3] (passes_of rfl) rfl (si_seq (SD.of (se_ix hu1 (SD.of (se_fld (sd_var (pv 0)) rfl (C_Alphabet.at (i := 1) (by decide +kernel) rfl))) (sd_var (pv 1)) (fun _ _ => rfl)))) (sg_name (pg_name (i := 3) N rfl (by first | exact Or.inl rfl | exact Or.inr rfl))) (sss_one (ss_if (sb_cmp (op_in hu65) lk_in (sd_var (pv 3)) (SD.of (se_ix hu1 (SD.of (se_fld (sd_var (pv 0)) rfl (C_Alphabet.at (i := 1) (by decide +kernel) rfl))) (sd_var (pv 2)) (fun _ _ => rfl))) rfl) (sss_one (ss_ret (SE.of sd_bl))) sss_nil)) (fun _ => rfl))
    (sss_one (ss_ret (SE.of sd_bl))))
abbrev s_events_at : Stmt := top 11
theorem sc_events_at : FnScope ["alphabet", "word", "place", "k"] ["alphabet", "word", "place"] (defScope s_events_at) := ⟨rfl, rfl, rfl, by decide +kernel, rfl, by decide +kernel, by decide +kernel⟩
noncomputable def S_events_at : ST := (sRet (eComp (iR1 (aCons (ed (eA fLen (aCons (eVar 1) aNil))) aNil)) (tN 3) (eTB (e2 fIn (eVar 2) (ed (e2 fIx (ed (e1 (fFld [0] 1) (eVar 0))) (ed (e2 fIx (eVar 1) (eVar 3))))))) (eVar 3) [3]))
noncomputable def B_events_at : BD := body 4 S_events_at
theorem ok_events_at {f_ : Addr} {fd_ : FuncData} (F0 : Fun K "events_at" "events_at" s_events_at f_ fd_) (bt : Bt mg) (C_Alphabet : ClF ca K 0 ["places", "letters"]) :
    FnOk P w K mg base (L2.CX P w) 1 f_ fd_ ["alphabet", "word", "place"] (spB ca 3 B_events_at) := by
  have N : (["alphabet", "word", "place", "k"] : List Str).Nodup := sc_events_at.nd
  refine def_ok F0 sc_events_at fun cdv A outer s H E hr => ?_
  have hu65 : (cxOf (L2.CX P w) P w K mg base ["alphabet", "word", "place", "k"] "events_at" (defScope s_events_at) f_ cdv A outer s H E).A.units + 65 < cLine := by have := hr.un; show (A.deeper _).units + 65 < cLine; omega
  have hu64 : (cxOf (L2.CX P w) P w K mg base ["alphabet", "word", "place", "k"] "events_at" (defScope s_events_at) f_ cdv A outer s H E).A.units + 64 < cLine := by omega
  have hu1 : (cxOf (L2.CX P w) P w K mg base ["alphabet", "word", "place", "k"] "events_at" (defScope s_events_at) f_ cdv A outer s H E).A.units + 1 < cLine := by omega
  have tk : Takes (cxOf (L2.CX P w) P w K mg base ["alphabet", "word", "place", "k"] "events_at" (defScope s_events_at) f_ cdv A outer s H E) (fun cls d _ H' => E cls d H') := takes_of rfl rfl rfl rfl
  unfold S_events_at
  exact (sss_one (ss_ret (se_lc (own := [(("k" : Str), 3)]) rfl N (si_r1 (pi_range1 rfl bt.range (sa_cons (SD.of (se_b (pe_callB cr_len rfl bt.len b_len (sa_cons (sd_var (pv 1)) sa_nil rfl)) lk_len)) sa_nil rfl))) (blkOk_by (by rfl)) (fun _ _ _ _ _ => by exact (sgw_name (pg_name (i := 3) N rfl (by first | exact Or.inl rfl | exact Or.inr rfl)) (by decide))) (fun _ _ _ _ _ => by exact (sts_one (sb_cmp (op_in hu65) lk_in (sd_var (pv 2)) (SD.of (se_ix hu1 (SD.of (se_fld (sd_var (pv 0)) rfl (C_Alphabet.at (i := 1) (by decide +kernel) rfl))) (SD.of (se_ix hu1 (sd_var (pv 1)) (sd_var (pv 3)) (fun _ _ => rfl))) (fun _ _ => rfl))) rfl))) (fun _ _ _ _ _ => by exact (sd_var (pv 3))) (fun _ => rfl))))
abbrev s_Matrix___init__ : Stmt := inClass (top 15) 0
theorem sc_Matrix___init__ : FnScope ["self", "alphabet", "nothing"] ["self", "alphabet"] (defScope s_Matrix___init__) := ⟨rfl, rfl, rfl, by decide +kernel, rfl, by decide +kernel, by decide +kernel⟩
noncomputable def S_Matrix___init__ : ST := (sSeq (sAtt [1] 0 (eVar 0) (eVar 1))
  (sSeq (sSet 2 (ed (e2 fMulT (eTup (aCons (eC (.int 0)) aNil)) (ed (eA fLen (aCons (ed (e1 (fFld [0] 1) (eVar 1))) aNil))))))
  (sAtt [1] 1 (eVar 0) (eAl (e2 fMulT (ed (eLst (aCons (ed (e2 fMulT (eTup (aCons (eVar 2) aNil)) (ed (e1 (fFld [0] 0) (eVar 1))))) aNil))) (ed (e1 (fFld [0] 0) (eVar 1))))))))
noncomputable def B_Matrix___init__ : BD := body 3 S_Matrix___init__
theorem ok_Matrix___init__ {f_ : Addr} {fd_ : FuncData} (F0 : Fun K "__init__" "Matrix.__init__" s_Matrix___init__ f_ fd_) (bt : Bt mg) (C_Alphabet : ClF ca K 0 ["places", "letters"]) (C_Matrix : ClF ca K 1 ["alphabet", "_rows"]) :
    FnOk P w K mg base (L2.CX P w) 1 f_ fd_ ["self", "alphabet"] (spB ca 2 B_Matrix___init__) := by
  have N : (["self", "alphabet", "nothing"] : List Str).Nodup := sc_Matrix___init__.nd
  refine def_ok F0 sc_Matrix___init__ fun cdv A outer s H E hr => ?_
  have hu65 : (cxOf (L2.CX P w) P w K mg base ["self", "alphabet", "nothing"] "Matrix.__init__" (defScope s_Matrix___init__) f_ cdv A outer s H E).A.units + 65 < cLine := by have := hr.un; show (A.deeper _).units + 65 < cLine; omega
  have hu64 : (cxOf (L2.CX P w) P w K mg base ["self", "alphabet", "nothing"] "Matrix.__init__" (defScope s_Matrix___init__) f_ cdv A outer s H E).A.units + 64 < cLine := by omega
  have hu1 : (cxOf (L2.CX P w) P w K mg base ["self", "alphabet", "nothing"] "Matrix.__init__" (defScope s_Matrix___init__) f_ cdv A outer s H E).A.units + 1 < cLine := by omega
  have tk : Takes (cxOf (L2.CX P w) P w K mg base ["self", "alphabet", "nothing"] "Matrix.__init__" (defScope s_Matrix___init__) f_ cdv A outer s H E) (fun cls d _ H' => E cls d H') := takes_of rfl rfl rfl rfl
  unfold S_Matrix___init__
  exact (sss_cons (ss_att (sd_var (pv 0)) (sd_var (pv 1)) (C_Matrix.at (i := 0) (by decide +kernel) rfl) rfl)
    (sss_cons (ss_set N rfl (by first | exact Or.inl rfl | exact Or.inr rfl) (SD.of (se_op op_mulT lk_mulT (sd_tup (sa_cons sd_int sa_nil rfl)) (SD.of (se_b (pe_callB cr_len rfl bt.len b_len (sa_cons (SD.of (se_fld (sd_var (pv 1)) rfl (C_Alphabet.at (i := 1) (by decide +kernel) rfl))) sa_nil rfl)) lk_len)))) rfl (by first | exact Or.inl rfl | exact Or.inr rfl))
    (sss_one (ss_att (sd_var (pv 0)) (sd_al (se_op op_mulT lk_mulT (SD.of (se_lst (sa_cons (SD.of (se_op op_mulT lk_mulT (sd_tup (sa_cons (sd_var (pv 2)) sa_nil rfl)) (SD.of (se_fld (sd_var (pv 1)) rfl (C_Alphabet.at (i := 0) (by decide +kernel) rfl))))) sa_nil rfl))) (SD.of (se_fld (sd_var (pv 1)) rfl (C_Alphabet.at (i := 0) (by decide +kernel) rfl))))) (C_Matrix.at (i := 1) (by decide +kernel) rfl) rfl))))
abbrev s_Matrix_known : Stmt := inClass (top 15) 2
theorem sc_Matrix_known : FnScope ["self", "p", "q", "letter"] ["self", "p", "q", "letter"] (defScope s_Matrix_known) := ⟨rfl, rfl, rfl, by decide +kernel, rfl, by decide +kernel, by decide +kernel⟩
noncomputable def S_Matrix_known : ST := (sRet (e2 fIx (ed (e2 fIx (ed (e2 fIx (ed (e1 (fFld [1] 1) (eVar 0))) (eVar 1))) (eVar 2))) (eVar 3)))
noncomputable def B_Matrix_known : BD := body 4 S_Matrix_known
theorem ok_Matrix_known {f_ : Addr} {fd_ : FuncData} (F0 : Fun K "known" "Matrix.known" s_Matrix_known f_ fd_) (C_Matrix : ClF ca K 1 ["alphabet", "_rows"]) :
    FnOk P w K mg base (L2.CX P w) 1 f_ fd_ ["self", "p", "q", "letter"] (spB ca 4 B_Matrix_known) := by
  have N : (["self", "p", "q", "letter"] : List Str).Nodup := sc_Matrix_known.nd
  refine def_ok F0 sc_Matrix_known fun cdv A outer s H E hr => ?_
  have hu65 : (cxOf (L2.CX P w) P w K mg base ["self", "p", "q", "letter"] "Matrix.known" (defScope s_Matrix_known) f_ cdv A outer s H E).A.units + 65 < cLine := by have := hr.un; show (A.deeper _).units + 65 < cLine; omega
  have hu64 : (cxOf (L2.CX P w) P w K mg base ["self", "p", "q", "letter"] "Matrix.known" (defScope s_Matrix_known) f_ cdv A outer s H E).A.units + 64 < cLine := by omega
  have hu1 : (cxOf (L2.CX P w) P w K mg base ["self", "p", "q", "letter"] "Matrix.known" (defScope s_Matrix_known) f_ cdv A outer s H E).A.units + 1 < cLine := by omega
  have tk : Takes (cxOf (L2.CX P w) P w K mg base ["self", "p", "q", "letter"] "Matrix.known" (defScope s_Matrix_known) f_ cdv A outer s H E) (fun cls d _ H' => E cls d H') := takes_of rfl rfl rfl rfl
  unfold S_Matrix_known
  exact (sss_one (ss_ret (se_ix hu1 (SD.of (se_ix hu1 (SD.of (se_ix hu1 (SD.of (se_fld (sd_var (pv 0)) rfl (C_Matrix.at (i := 1) (by decide +kernel) rfl))) (sd_var (pv 1)) (fun _ _ => rfl))) (sd_var (pv 2)) (fun _ _ => rfl))) (sd_var (pv 3)) (fun _ _ => rfl))))
abbrev s_greatest : Stmt := top 16
theorem sc_greatest : FnScope ["rows", "at", "row"] ["rows"] (defScope s_greatest) := ⟨rfl, rfl, rfl, by decide +kernel, rfl, by decide +kernel, by decide +kernel⟩
noncomputable def S_greatest : ST := (sRet (eA fTuple (aCons (ed (eComp (iR1 (aCons (ed (eA fLen (aCons (ed (e2 fIx (eVar 0) (eC (.int 0)))) aNil))) aNil)) (tN 1) bYes (ed (eA fMax (aCons (ed (eComp (iSeq (eVar 0)) (tN 2) bYes (ed (e2 fIx (eVar 2) (eVar 1))) [2])) aNil))) [1])) aNil)))
noncomputable def B_greatest : BD := body 3 S_greatest
theorem ok_greatest {f_ : Addr} {fd_ : FuncData} (F0 : Fun K "greatest" "greatest" s_greatest f_ fd_) (bt : Bt mg) :
    FnOk P w K mg base (L2.CX P w) 1 f_ fd_ ["rows"] (spB ca 1 B_greatest) := by
  have N : (["rows", "at", "row"] : List Str).Nodup := sc_greatest.nd
  refine def_ok F0 sc_greatest fun cdv A outer s H E hr => ?_
  have hu65 : (cxOf (L2.CX P w) P w K mg base ["rows", "at", "row"] "greatest" (defScope s_greatest) f_ cdv A outer s H E).A.units + 65 < cLine := by have := hr.un; show (A.deeper _).units + 65 < cLine; omega
  have hu64 : (cxOf (L2.CX P w) P w K mg base ["rows", "at", "row"] "greatest" (defScope s_greatest) f_ cdv A outer s H E).A.units + 64 < cLine := by omega
  have hu1 : (cxOf (L2.CX P w) P w K mg base ["rows", "at", "row"] "greatest" (defScope s_greatest) f_ cdv A outer s H E).A.units + 1 < cLine := by omega
  have tk : Takes (cxOf (L2.CX P w) P w K mg base ["rows", "at", "row"] "greatest" (defScope s_greatest) f_ cdv A outer s H E) (fun cls d _ H' => E cls d H') := takes_of rfl rfl rfl rfl
  unfold S_greatest
  exact (sss_one (ss_ret (se_b (pe_callTy call_tuple_of rfl bt.tuple b_tuple (sa_cons (SD.of (se_lc (own := [(("at" : Str), 1)]) rfl N (si_r1 (pi_range1 rfl bt.range (sa_cons (SD.of (se_b (pe_callB cr_len rfl bt.len b_len (sa_cons (SD.of (se_ix hu1 (sd_var (pv 0)) sd_int (fun _ _ => rfl))) sa_nil rfl)) lk_len)) sa_nil rfl))) (blkOk_by (by rfl)) (fun _ _ _ _ _ => by exact (sgw_name (pg_name (i := 1) N rfl (by first | exact Or.inl rfl | exact Or.inr rfl)) (by decide))) (fun _ _ _ _ _ => by exact sts_nil) (fun _ _ _ _ _ => by exact (SD.of (se_b (pe_callB (cr_max rfl) rfl bt.max b_max (sa_cons (SD.of (se_lc (own := [(("row" : Str), 2)]) rfl N (si_seq (sd_var (pv 0))) (blkOk_by (by rfl)) (fun _ _ _ _ _ => by exact (sgw_name (pg_name (i := 2) N rfl (by first | exact Or.inl rfl | exact Or.inr rfl)) (by decide))) (fun _ _ _ _ _ => by exact sts_nil) (fun _ _ _ _ _ => by exact (SD.of (se_ix hu1 (sd_var (pv 2)) (sd_var (pv 1)) (fun _ _ => rfl)))) (fun _ => rfl))) sa_nil rfl)) lk_max))) (fun _ => rfl))) sa_nil rfl)) lk_tuple)))
abbrev s_Ledger___init__ : Stmt := inClass (top 19) 0
theorem sc_Ledger___init__ : FnScope ["self", "alphabet", "_"] ["self", "alphabet"] (defScope s_Ledger___init__) := ⟨rfl, rfl, rfl, by decide +kernel, rfl, by decide +kernel, by decide +kernel⟩
noncomputable def S_Ledger___init__ : ST := (sSeq (sAtt [2] 0 (eVar 0) (eVar 1))
  (sAtt [2] 1 (eVar 0) (eAl (eComp (iR1 (aCons (ed (e1 (fFld [0] 0) (eVar 1))) aNil)) (tN 2) bYes (ed (e2 fMulA (ed (eLst (aCons (eC (.int 0)) aNil))) (ed (eA fLen (aCons (ed (e1 (fFld [0] 1) (eVar 1))) aNil))))) [2]))))
noncomputable def B_Ledger___init__ : BD := body 3 S_Ledger___init__
theorem ok_Ledger___init__ {f_ : Addr} {fd_ : FuncData} (F0 : Fun K "__init__" "Ledger.__init__" s_Ledger___init__ f_ fd_) (bt : Bt mg) (C_Alphabet : ClF ca K 0 ["places", "letters"]) (C_Ledger : ClF ca K 2 ["_alphabet", "_rows"]) :
    FnOk P w K mg base (L2.CX P w) 1 f_ fd_ ["self", "alphabet"] (spB ca 2 B_Ledger___init__) := by
  have N : (["self", "alphabet", "_"] : List Str).Nodup := sc_Ledger___init__.nd
  refine def_ok F0 sc_Ledger___init__ fun cdv A outer s H E hr => ?_
  have hu65 : (cxOf (L2.CX P w) P w K mg base ["self", "alphabet", "_"] "Ledger.__init__" (defScope s_Ledger___init__) f_ cdv A outer s H E).A.units + 65 < cLine := by have := hr.un; show (A.deeper _).units + 65 < cLine; omega
  have hu64 : (cxOf (L2.CX P w) P w K mg base ["self", "alphabet", "_"] "Ledger.__init__" (defScope s_Ledger___init__) f_ cdv A outer s H E).A.units + 64 < cLine := by omega
  have hu1 : (cxOf (L2.CX P w) P w K mg base ["self", "alphabet", "_"] "Ledger.__init__" (defScope s_Ledger___init__) f_ cdv A outer s H E).A.units + 1 < cLine := by omega
  have tk : Takes (cxOf (L2.CX P w) P w K mg base ["self", "alphabet", "_"] "Ledger.__init__" (defScope s_Ledger___init__) f_ cdv A outer s H E) (fun cls d _ H' => E cls d H') := takes_of rfl rfl rfl rfl
  unfold S_Ledger___init__
  exact (sss_cons (ss_att (sd_var (pv 0)) (sd_var (pv 1)) (C_Ledger.at (i := 0) (by decide +kernel) rfl) rfl)
    (sss_one (ss_att (sd_var (pv 0)) (sd_al (se_lc (own := [(("_" : Str), 2)]) rfl N (si_r1 (pi_range1 rfl bt.range (sa_cons (SD.of (se_fld (sd_var (pv 1)) rfl (C_Alphabet.at (i := 0) (by decide +kernel) rfl))) sa_nil rfl))) (blkOk_by (by rfl)) (fun _ _ _ _ _ => by exact (sgw_name (pg_name (i := 2) N rfl (by first | exact Or.inl rfl | exact Or.inr rfl)) (by decide))) (fun _ _ _ _ _ => by exact sts_nil) (fun _ _ _ _ _ => by exact (SD.of (se_op op_mulA lk_mulA (SD.of (se_lst (sa_cons sd_int sa_nil rfl))) (SD.of (se_b (pe_callB cr_len rfl bt.len b_len (sa_cons (SD.of (se_fld (sd_var (pv 1)) rfl (C_Alphabet.at (i := 1) (by decide +kernel) rfl))) sa_nil rfl)) lk_len))))) (fun _ => rfl))) (C_Ledger.at (i := 1) (by decide +kernel) rfl) rfl)))
abbrev s_Ledger_happen : Stmt := inClass (top 19) 1
theorem sc_Ledger_happen : FnScope ["self", "letter", "there", "row", "other", "place"] ["self", "letter"] (defScope s_Ledger_happen) := ⟨rfl, rfl, rfl, by decide +kernel, rfl, by decide +kernel, by decide +kernel⟩
noncomputable def S_Ledger_happen : ST := (sSeq (sSet 2 (ed (e2 fIx (ed (e1 (fFld [0] 1) (ed (e1 (fFld [2] 0) (eVar 0))))) (eVar 1))))
  (sSeq (sSet 3 (eAl (eLst aNil)))
  (sSeq (sFor (iR1 (aCons (ed (eA fLen (aCons (ed (e1 (fFld [0] 1) (ed (e1 (fFld [2] 0) (eVar 0))))) aNil))) aNil)) (tN 4) (sX (ed (eM "list" fAppend (eVar 3) (aCons (ed (eA fMax (aCons (ed (eComp (iSeq (eVar 2)) (tN 5) bYes (ed (e2 fIx (ed (e2 fIx (ed (e1 (fFld [2] 1) (eVar 0))) (eVar 5))) (eVar 4))) [5])) aNil))) aNil)))) [4])
  (sSeq (sAugS f1 (eVar 3) (eVar 1) (eC (.int 1)))
  (sFor (iSeq (eVar 2)) (tN 5) (sPut (ed (e1 (fFld [2] 1) (eVar 0))) (eVar 5) (ed (eA fList (aCons (eVar 3) aNil)))) [5])))))
noncomputable def B_Ledger_happen : BD := body 6 S_Ledger_happen
theorem ok_Ledger_happen {f_ : Addr} {fd_ : FuncData} (F0 : Fun K "happen" "Ledger.happen" s_Ledger_happen f_ fd_) (bt : Bt mg) (C_Alphabet : ClF ca K 0 ["places", "letters"]) (C_Ledger : ClF ca K 2 ["_alphabet", "_rows"]) :
    FnOk P w K mg base (L2.CX P w) 1 f_ fd_ ["self", "letter"] (spB ca 2 B_Ledger_happen) := by
  have N : (["self", "letter", "there", "row", "other", "place"] : List Str).Nodup := sc_Ledger_happen.nd
  refine def_ok F0 sc_Ledger_happen fun cdv A outer s H E hr => ?_
  have hu65 : (cxOf (L2.CX P w) P w K mg base ["self", "letter", "there", "row", "other", "place"] "Ledger.happen" (defScope s_Ledger_happen) f_ cdv A outer s H E).A.units + 65 < cLine := by have := hr.un; show (A.deeper _).units + 65 < cLine; omega
  have hu64 : (cxOf (L2.CX P w) P w K mg base ["self", "letter", "there", "row", "other", "place"] "Ledger.happen" (defScope s_Ledger_happen) f_ cdv A outer s H E).A.units + 64 < cLine := by omega
  have hu1 : (cxOf (L2.CX P w) P w K mg base ["self", "letter", "there", "row", "other", "place"] "Ledger.happen" (defScope s_Ledger_happen) f_ cdv A outer s H E).A.units + 1 < cLine := by omega
  have tk : Takes (cxOf (L2.CX P w) P w K mg base ["self", "letter", "there", "row", "other", "place"] "Ledger.happen" (defScope s_Ledger_happen) f_ cdv A outer s H E) (fun cls d _ H' => E cls d H') := takes_of rfl rfl rfl rfl
  unfold S_Ledger_happen
  exact (sss_cons (ss_set N rfl (by first | exact Or.inl rfl | exact Or.inr rfl) (SD.of (se_ix hu1 (SD.of (se_fld (SD.of (se_fld (sd_var (pv 0)) rfl (C_Ledger.at (i := 0) (by decide +kernel) rfl))) rfl (C_Alphabet.at (i := 1) (by decide +kernel) rfl))) (sd_var (pv 1)) (fun _ _ => rfl))) rfl (by first | exact Or.inl rfl | exact Or.inr rfl))
    (sss_cons (ss_set N rfl (by first | exact Or.inl rfl | exact Or.inr rfl) (sd_al (se_lst sa_nil)) rfl (by first | exact Or.inl rfl | exact Or.inr rfl))
    (sss_cons (ss_for [4] (passes_of rfl) rfl (si_r1 (pi_range1 rfl bt.range (sa_cons (SD.of (se_b (pe_callB cr_len rfl bt.len b_len (sa_cons (SD.of (se_fld (SD.of (se_fld (sd_var (pv 0)) rfl (C_Ledger.at (i := 0) (by decide +kernel) rfl))) rfl (C_Alphabet.at (i := 1) (by decide +kernel) rfl))) sa_nil rfl)) lk_len)) sa_nil rfl))) (sg_name (pg_name (i := 4) N rfl (by first | exact Or.inl rfl | exact Or.inr rfl))) (sss_one (ss_expr (SD.of (se_m (pe_bm PySem.F.plainAttrs_list PySem.F.slot_list_append PySem.F.type_list_append mt_append (sd_var (pv 3)) (sa_cons (SD.of (se_b (pe_callB (cr_max rfl) rfl bt.max b_max (sa_cons (SD.of (se_lc (own := [(("place" : Str), 5)]) rfl N (si_seq (sd_var (pv 2))) (blkOk_by (by rfl)) (fun _ _ _ _ _ => by exact (sgw_name (pg_name (i := 5) N rfl (by first | exact Or.inl rfl | exact Or.inr rfl)) (by decide))) (fun _ _ _ _ _ => by exact sts_nil) (fun _ _ _ _ _ => by exact (SD.of (se_ix hu1 (SD.of (se_ix hu1 (SD.of (se_fld (sd_var (pv 0)) rfl (C_Ledger.at (i := 1) (by decide +kernel) rfl))) (sd_var (pv 5)) (fun _ _ => rfl))) (sd_var (pv 4)) (fun _ _ => rfl)))) (fun _ => rfl))) sa_nil rfl)) lk_max)) sa_nil rfl)) lk_append)) rfl)) (fun _ => rfl))
    (sss_cons (ss_augS hu1 (sd_var (pv 3)) (sd_var (pv 1)) sd_int iop_add lk_addI (by intros; rfl))
    (sss_one (ss_for [5] (passes_of rfl) rfl (si_seq (sd_var (pv 2))) (sg_name (pg_name (i := 5) N rfl (by first | exact Or.inl rfl | exact Or.inr rfl))) (sss_one (ss_put hu1 (SD.of (se_fld (sd_var (pv 0)) rfl (C_Ledger.at (i := 1) (by decide +kernel) rfl))) (sd_var (pv 5)) (SD.of (se_b (pe_callTy call_list_of rfl bt.list b_list (sa_cons (sd_var (pv 3)) sa_nil rfl)) lk_list)) (fun _ => rfl) rfl rfl rfl)) (fun _ => rfl)))))))
abbrev s_Ledger_known : Stmt := inClass (top 19) 2
theorem sc_Ledger_known : FnScope ["self", "place", "letter"] ["self", "place", "letter"] (defScope s_Ledger_known) := ⟨rfl, rfl, rfl, by decide +kernel, rfl, by decide +kernel, by decide +kernel⟩
noncomputable def S_Ledger_known : ST := (sRet (e2 fIx (ed (e2 fIx (ed (e1 (fFld [2] 1) (eVar 0))) (eVar 1))) (eVar 2)))
noncomputable def B_Ledger_known : BD := body 3 S_Ledger_known
theorem ok_Ledger_known {f_ : Addr} {fd_ : FuncData} (F0 : Fun K "known" "Ledger.known" s_Ledger_known f_ fd_) (C_Ledger : ClF ca K 2 ["_alphabet", "_rows"]) :
    FnOk P w K mg base (L2.CX P w) 1 f_ fd_ ["self", "place", "letter"] (spB ca 3 B_Ledger_known) := by
  have N : (["self", "place", "letter"] : List Str).Nodup := sc_Ledger_known.nd
  refine def_ok F0 sc_Ledger_known fun cdv A outer s H E hr => ?_
  have hu65 : (cxOf (L2.CX P w) P w K mg base ["self", "place", "letter"] "Ledger.known" (defScope s_Ledger_known) f_ cdv A outer s H E).A.units + 65 < cLine := by have := hr.un; show (A.deeper _).units + 65 < cLine; omega
  have hu64 : (cxOf (L2.CX P w) P w K mg base ["self", "place", "letter"] "Ledger.known" (defScope s_Ledger_known) f_ cdv A outer s H E).A.units + 64 < cLine := by omega
  have hu1 : (cxOf (L2.CX P w) P w K mg base ["self", "place", "letter"] "Ledger.known" (defScope s_Ledger_known) f_ cdv A outer s H E).A.units + 1 < cLine := by omega
  have tk : Takes (cxOf (L2.CX P w) P w K mg base ["self", "place", "letter"] "Ledger.known" (defScope s_Ledger_known) f_ cdv A outer s H E) (fun cls d _ H' => E cls d H') := takes_of rfl rfl rfl rfl
  unfold S_Ledger_known
  exact (sss_one (ss_ret (se_ix hu1 (SD.of (se_ix hu1 (SD.of (se_fld (sd_var (pv 0)) rfl (C_Ledger.at (i := 1) (by decide +kernel) rfl))) (sd_var (pv 1)) (fun _ _ => rfl))) (sd_var (pv 2)) (fun _ _ => rfl))))
abbrev s__law_draws : Stmt := top 22
theorem sc__law_draws : FnScope ["script", "count", "cells", "found", "mixed", "k", "j", "cell", "again"] ["script", "count"] (defScope s__law_draws) := ⟨rfl, rfl, rfl, by decide +kernel, rfl, by decide +kernel, by decide +kernel⟩
noncomputable def S__law_draws : ST := (sSeq (sSet 2 (eAl (eA fListS (aCons (eVar 0) aNil))))
  (sSeq (sIf (eTB (e2 fEq (ed (eA fLen (aCons (eVar 2) aNil))) (eC (.int 0)))) (sSet 2 (eAl (eLst (aCons (eC (.int 7)) aNil)))) sPass)
  (sSeq (sSet 3 (eAl (eLst aNil)))
  (sSeq (sSet 4 (eC (.int 12345)))
  (sSeq (sFor (iR1 (aCons (eVar 1) aNil)) (tN 5) (sSeq (sSet 6 (ed (e2 fMod (eVar 5) (ed (eA fLen (aCons (eVar 2) aNil))))))
  (sSeq (sSet 7 (ed (e2 fIx (eVar 2) (eVar 6))))
  (sSeq (sSet 4 (ed (e2 fMod (ed (eA fInt (aCons (ed (e2 fAdd (ed (e2 fAdd (ed (e2 fAdd (ed (e2 fMulA (eVar 4) (eC (.int 48271)))) (ed (e2 fMulA (ed (e2 fMod (ed (eA fInt (aCons (eVar 7) aNil))) (eC (.int 1000003)))) (eC (.int 69621)))))) (ed (e2 fMulA (eVar 5) (eC (.int 7919)))))) (eC (.int 11)))) aNil))) (eC (.int 2147483647)))))
  (sSeq (sSet 8 (ed (e2 fMod (ed (eA fInt (aCons (ed (e2 fAdd (ed (e2 fAdd (ed (e2 fMulA (eVar 4) (eVar 4))) (ed (e2 fMulA (eC (.int 31)) (eVar 4))))) (eVar 5))) aNil))) (eC (.int 1000003)))))
  (sIf (eTB (e2 fGe (eVar 7) (ed (e2 fPow (eC (.int 10)) (eC (.int 18)))))) (sSeq (sX (ed (eM "list" fAppend (eVar 3) (aCons (ed (e2 fMod (ed (eA fInt (aCons (eVar 7) aNil))) (eC (.int 1000)))) aNil))))
  (sPut (eVar 2) (eVar 6) (ed (e2 fDiv (eVar 7) (eC (.int 1000)))))) (sX (ed (eM "list" fAppend (eVar 3) (aCons (ed (e2 fMod (ed (eA fInt (aCons (eVar 8) aNil))) (eC (.int 1000)))) aNil))))))))) [5, 6, 7, 8])
  (sSeq (sX (ed (eM "list" fReverse (eVar 3) aNil)))
  (sRet (ev (eVar 3)))))))))
noncomputable def B__law_draws : BD := body 9 S__law_draws
theorem ok__law_draws {f_ : Addr} {fd_ : FuncData} (F0 : Fun K "_law_draws" "_law_draws" s__law_draws f_ fd_) (bt : Bt mg) (hro : ∀ a ns H, ca.ro a ns → SqL K H a (ns.map V.int)) :
    FnOk P w K mg base (L2.CX P w) 1 f_ fd_ ["script", "count"] (spB ca 2 B__law_draws) := by
  have N : (["script", "count", "cells", "found", "mixed", "k", "j", "cell", "again"] : List Str).Nodup := sc__law_draws.nd
  refine def_ok F0 sc__law_draws fun cdv A outer s H E hr => ?_
  have hu65 : (cxOf (L2.CX P w) P w K mg base ["script", "count", "cells", "found", "mixed", "k", "j", "cell", "again"] "_law_draws" (defScope s__law_draws) f_ cdv A outer s H E).A.units + 65 < cLine := by have := hr.un; show (A.deeper _).units + 65 < cLine; omega
  have hu64 : (cxOf (L2.CX P w) P w K mg base ["script", "count", "cells", "found", "mixed", "k", "j", "cell", "again"] "_law_draws" (defScope s__law_draws) f_ cdv A outer s H E).A.units + 64 < cLine := by omega
  have hu1 : (cxOf (L2.CX P w) P w K mg base ["script", "count", "cells", "found", "mixed", "k", "j", "cell", "again"] "_law_draws" (defScope s__law_draws) f_ cdv A outer s H E).A.units + 1 < cLine := by omega
  have tk : Takes (cxOf (L2.CX P w) P w K mg base ["script", "count", "cells", "found", "mixed", "k", "j", "cell", "again"] "_law_draws" (defScope s__law_draws) f_ cdv A outer s H E) (fun cls d _ H' => E cls d H') := takes_of rfl rfl rfl rfl
  unfold S__law_draws
  exact (sss_cons (ss_set N rfl (by first | exact Or.inl rfl | exact Or.inr rfl) (sd_al (se_b (pe_callTy call_list_of rfl bt.list b_list (sa_cons (sd_var (pv 0)) sa_nil rfl)) (lk_listS hro))) rfl (by first | exact Or.inl rfl | exact Or.inr rfl))
    (sss_cons (ss_if (sb_cmp (op_eqD hu64) lk_eq (SD.of (se_b (pe_callB cr_len rfl bt.len b_len (sa_cons (sd_var (pv 2)) sa_nil rfl)) lk_len)) sd_int (nomark _)) (sss_one (ss_set N rfl (by first | exact Or.inl rfl | exact Or.inr rfl) (sd_al (se_lst (sa_cons sd_int sa_nil rfl))) rfl (by first | exact Or.inl rfl | exact Or.inr rfl))) sss_nil)
    (sss_cons (ss_set N rfl (by first | exact Or.inl rfl | exact Or.inr rfl) (sd_al (se_lst sa_nil)) rfl (by first | exact Or.inl rfl | exact Or.inr rfl))
    (sss_cons (ss_set N rfl (by first | exact Or.inl rfl | exact Or.inr rfl) sd_int rfl (by first | exact Or.inl rfl | exact Or.inr rfl))
    (sss_cons (ss_for [5, 6, 7, 8] (passes_of rfl) rfl (si_r1 (pi_range1 rfl bt.range (sa_cons (sd_var (pv 1)) sa_nil rfl))) (sg_name (pg_name (i := 5) N rfl (by first | exact Or.inl rfl | exact Or.inr rfl))) (sss_cons (ss_set N rfl (by first | exact Or.inl rfl | exact Or.inr rfl) (SD.of (se_op op_mod lk_mod (sd_var (pv 5)) (SD.of (se_b (pe_callB cr_len rfl bt.len b_len (sa_cons (sd_var (pv 2)) sa_nil rfl)) lk_len)))) rfl (by first | exact Or.inl rfl | exact Or.inr rfl))
    (sss_cons (ss_set N rfl (by first | exact Or.inl rfl | exact Or.inr rfl) (SD.of (se_ix hu1 (sd_var (pv 2)) (sd_var (pv 6)) (fun _ _ => rfl))) rfl (by first | exact Or.inl rfl | exact Or.inr rfl))
    (sss_cons (ss_set N rfl (by first | exact Or.inl rfl | exact Or.inr rfl) (SD.of (se_op op_mod lk_mod (SD.of (se_b (pe_callTy call_int1 rfl bt.int b_int (sa_cons (SD.of (se_op op_addA lk_add (SD.of (se_op op_addA lk_add (SD.of (se_op op_addA lk_add (SD.of (se_op op_mulA lk_mulA (sd_var (pv 4)) sd_int)) (SD.of (se_op op_mulA lk_mulA (SD.of (se_op op_mod lk_mod (SD.of (se_b (pe_callTy call_int1 rfl bt.int b_int (sa_cons (sd_var (pv 7)) sa_nil rfl)) lk_int)) sd_int)) sd_int)))) (SD.of (se_op op_mulA lk_mulA (sd_var (pv 5)) sd_int)))) sd_int)) sa_nil rfl)) lk_int)) sd_int)) rfl (by first | exact Or.inl rfl | exact Or.inr rfl))
    (sss_cons (ss_set N rfl (by first | exact Or.inl rfl | exact Or.inr rfl) (SD.of (se_op op_mod lk_mod (SD.of (se_b (pe_callTy call_int1 rfl bt.int b_int (sa_cons (SD.of (se_op op_addA lk_add (SD.of (se_op op_addA lk_add (SD.of (se_op op_mulA lk_mulA (sd_var (pv 4)) (sd_var (pv 4)))) (SD.of (se_op op_mulA lk_mulA sd_int (sd_var (pv 4)))))) (sd_var (pv 5)))) sa_nil rfl)) lk_int)) sd_int)) rfl (by first | exact Or.inl rfl | exact Or.inr rfl))
    (sss_one (ss_if (sb_cmp op_ge lk_ge (sd_var (pv 7)) (SD.of (se_op op_pow lk_pow sd_int sd_int)) (nomark _)) (sss_cons (ss_expr (SD.of (se_m (pe_bm PySem.F.plainAttrs_list PySem.F.slot_list_append PySem.F.type_list_append mt_append (sd_var (pv 3)) (sa_cons (SD.of (se_op op_mod lk_mod (SD.of (se_b (pe_callTy call_int1 rfl bt.int b_int (sa_cons (sd_var (pv 7)) sa_nil rfl)) lk_int)) sd_int)) sa_nil rfl)) lk_append)) rfl)
    (sss_one (ss_put hu1 (sd_var (pv 2)) (sd_var (pv 6)) (SD.of (se_op op_fdiv lk_div (sd_var (pv 7)) sd_int)) (fun _ => rfl) rfl rfl rfl))) (sss_one (ss_expr (SD.of (se_m (pe_bm PySem.F.plainAttrs_list PySem.F.slot_list_append PySem.F.type_list_append mt_append (sd_var (pv 3)) (sa_cons (SD.of (se_op op_mod lk_mod (SD.of (se_b (pe_callTy call_int1 rfl bt.int b_int (sa_cons (sd_var (pv 8)) sa_nil rfl)) lk_int)) sd_int)) sa_nil rfl)) lk_append)) rfl)))))))) (fun _ => rfl))
    (sss_cons (ss_expr (SD.of (se_m0 (pe_bm0 PySem.F.plainAttrs_list PySem.F.slot_list_reverse PySem.F.type_list_reverse mt_reverse (sd_var (pv 3))) lk_reverse)) rfl)
    (sss_one (ss_ret (SE.of (sd_var (pv 3)))))))))))
abbrev s__law_take : Stmt := top 23
theorem sc__law_take : FnScope ["draws", "limit"] ["draws", "limit"] (defScope s__law_take) := ⟨rfl, rfl, rfl, by decide +kernel, rfl, by decide +kernel, by decide +kernel⟩
noncomputable def S__law_take : ST := (sSeq (sIf (eTB (e2 fEq (ed (eA fLen (aCons (eVar 0) aNil))) (eC (.int 0)))) (sRet (ev (eC (.int 0)))) sPass)
  (sRet (e2 fMod (ed (eA fInt (aCons (ed (eM "list" fPop (eVar 0) aNil)) aNil))) (eVar 1))))
noncomputable def B__law_take : BD := body 2 S__law_take
theorem ok__law_take {f_ : Addr} {fd_ : FuncData} (F0 : Fun K "_law_take" "_law_take" s__law_take f_ fd_) (bt : Bt mg) :
    FnOk P w K mg base (L2.CX P w) 1 f_ fd_ ["draws", "limit"] (spB ca 2 B__law_take) := by
  have N : (["draws", "limit"] : List Str).Nodup := sc__law_take.nd
  refine def_ok F0 sc__law_take fun cdv A outer s H E hr => ?_
  have hu65 : (cxOf (L2.CX P w) P w K mg base ["draws", "limit"] "_law_take" (defScope s__law_take) f_ cdv A outer s H E).A.units + 65 < cLine := by have := hr.un; show (A.deeper _).units + 65 < cLine; omega
  have hu64 : (cxOf (L2.CX P w) P w K mg base ["draws", "limit"] "_law_take" (defScope s__law_take) f_ cdv A outer s H E).A.units + 64 < cLine := by omega
  have hu1 : (cxOf (L2.CX P w) P w K mg base ["draws", "limit"] "_law_take" (defScope s__law_take) f_ cdv A outer s H E).A.units + 1 < cLine := by omega
  have tk : Takes (cxOf (L2.CX P w) P w K mg base ["draws", "limit"] "_law_take" (defScope s__law_take) f_ cdv A outer s H E) (fun cls d _ H' => E cls d H') := takes_of rfl rfl rfl rfl
  unfold S__law_take
  exact (sss_cons (ss_if (sb_cmp (op_eqD hu64) lk_eq (SD.of (se_b (pe_callB cr_len rfl bt.len b_len (sa_cons (sd_var (pv 0)) sa_nil rfl)) lk_len)) sd_int (nomark _)) (sss_one (ss_ret (SE.of sd_int))) sss_nil)
    (sss_one (ss_ret (se_op op_mod lk_mod (SD.of (se_b (pe_callTy call_int1 rfl bt.int b_int (sa_cons (SD.of (se_m0 (pe_bm0 PySem.F.plainAttrs_list PySem.F.slot_list_pop PySem.F.type_list_pop mt_pop (sd_var (pv 0))) lk_pop)) sa_nil rfl)) lk_int)) (sd_var (pv 1))))))
abbrev s__law_meet : Stmt := top 26
theorem sc__law_meet : FnScope ["letters", "a", "b", "place"] ["letters", "a", "b"] (defScope s__law_meet) := ⟨rfl, rfl, rfl, by decide +kernel, rfl, by decide +kernel, by decide +kernel⟩
noncomputable def S__law_meet : ST := (sRet (e2 fGt (ed (eA fLen (aCons (ed (eComp (iSeq (ed (e2 fIx (eVar 0) (eVar 1)))) (tN 3) (eTB (e2 fIn (eVar 3) (ed (e2 fIx (eVar 0) (eVar 2))))) (eC (.int 1)) [3])) aNil))) (eC (.int 0))))
noncomputable def B__law_meet : BD := body 4 S__law_meet
theorem ok__law_meet {f_ : Addr} {fd_ : FuncData} (F0 : Fun K "_law_meet" "_law_meet" s__law_meet f_ fd_) (bt : Bt mg) :
    FnOk P w K mg base (L2.CX P w) 1 f_ fd_ ["letters", "a", "b"] (spB ca 3 B__law_meet) := by
  have N : (["letters", "a", "b", "place"] : List Str).Nodup := sc__law_meet.nd
  refine def_ok F0 sc__law_meet fun cdv A outer s H E hr => ?_
  have hu65 : (cxOf (L2.CX P w) P w K mg base ["letters", "a", "b", "place"] "_law_meet" (defScope s__law_meet) f_ cdv A outer s H E).A.units + 65 < cLine := by have := hr.un; show (A.deeper _).units + 65 < cLine; omega
  have hu64 : (cxOf (L2.CX P w) P w K mg base ["letters", "a", "b", "place"] "_law_meet" (defScope s__law_meet) f_ cdv A outer s H E).A.units + 64 < cLine := by omega
  have hu1 : (cxOf (L2.CX P w) P w K mg base ["letters", "a", "b", "place"] "_law_meet" (defScope s__law_meet) f_ cdv A outer s H E).A.units + 1 < cLine := by omega
  have tk : Takes (cxOf (L2.CX P w) P w K mg base ["letters", "a", "b", "place"] "_law_meet" (defScope s__law_meet) f_ cdv A outer s H E) (fun cls d _ H' => E cls d H') := takes_of rfl rfl rfl rfl
  unfold S__law_meet
  exact (sss_one (ss_ret (se_cmp op_gt lk_gt (SD.of (se_b (pe_callB cr_len rfl bt.len b_len (sa_cons (SD.of (se_lc (own := [(("place" : Str), 3)]) rfl N (si_seq (SD.of (se_ix hu1 (sd_var (pv 0)) (sd_var (pv 1)) (fun _ _ => rfl)))) (blkOk_by (by rfl)) (fun _ _ _ _ _ => by exact (sgw_name (pg_name (i := 3) N rfl (by first | exact Or.inl rfl | exact Or.inr rfl)) (by decide))) (fun _ _ _ _ _ => by exact (sts_one (sb_cmp (op_in hu65) lk_in (sd_var (pv 3)) (SD.of (se_ix hu1 (sd_var (pv 0)) (sd_var (pv 2)) (fun _ _ => rfl))) rfl))) (fun _ _ _ _ _ => by exact sd_int) (fun _ => rfl))) sa_nil rfl)) lk_len)) sd_int (nomark _))))
abbrev s_Alphabet___init__ : Stmt := inClass (top 7) 0
theorem sc_Alphabet___init__ : FnScope ["self", "places", "letters", "valid", "letter"] ["self", "places", "letters"] (defScope s_Alphabet___init__) := ⟨rfl, rfl, rfl, by decide +kernel, rfl, by decide +kernel, by decide +kernel⟩
noncomputable def S_Alphabet___init__ : ST := (sSeq (sSet 3 (vAnd (ed (eCh fLe fLe (eC (.int 1)) (eVar 1) (eC (.int 4)))) (ed (eCh fLe fLe (eC (.int 1)) (ed (eA fLen (aCons (eVar 2) aNil))) (eC (.int 6))))))
  (sSeq (sFor (iSeq (eVar 2)) (tN 4) (sSet 3 (vAnd (eVar 3) (ed (eCall 2 B_fits (aCons (eVar 4) (aCons (eVar 1) aNil)))))) [])
  (sSeq (sIf (bNot (eT (eVar 3))) (sRaise 3) sPass)
  (sSeq (sAtt [0] 0 (eVar 0) (eVar 1))
  (sAtt [0] 1 (eVar 0) (ed (eA fTuple (aCons (ed (eComp (iSeq (eVar 2)) (tN 4) bYes (ed (eA fTuple (aCons (eVar 4) aNil))) [4])) aNil))))))))
noncomputable def B_Alphabet___init__ : BD := body 5 S_Alphabet___init__
theorem ok_Alphabet___init__ {f_ : Addr} {fd_ : FuncData} {f_fits : Addr} {fd_fits : FuncData} (F0 : Fun K "__init__" "Alphabet.__init__" s_Alphabet___init__ f_ fd_) (bt : Bt mg) (cs : Cs mg) (C_Alphabet : ClF ca K 0 ["places", "letters"]) (Ex_InvalidAlphabet : ExF K mg ca "InvalidAlphabet" 3) (D_fits : Dg K mg "fits" "fits" s_fits ["letter", "places"] f_fits fd_fits) (G_fits : FnOk P w K mg base (L2.CX P w) 1 f_fits fd_fits ["letter", "places"] (spB ca 2 B_fits)) :
    FnOk P w K mg base (L2.CX P w) 2 f_ fd_ ["self", "places", "letters"] (spB ca 3 B_Alphabet___init__) := by
  have N : (["self", "places", "letters", "valid", "letter"] : List Str).Nodup := sc_Alphabet___init__.nd
  obtain ⟨_, c_MOST_LETTERS⟩ := cs.MOST_LETTERS
  obtain ⟨_, c_MOST_PLACES⟩ := cs.MOST_PLACES
  refine def_ok F0 sc_Alphabet___init__ fun cdv A outer s H E hr => ?_
  have hu65 : (cxOf (L2.CX P w) P w K mg base ["self", "places", "letters", "valid", "letter"] "Alphabet.__init__" (defScope s_Alphabet___init__) f_ cdv A outer s H E).A.units + 65 < cLine := by have := hr.un; show (A.deeper _).units + 65 < cLine; omega
  have hu64 : (cxOf (L2.CX P w) P w K mg base ["self", "places", "letters", "valid", "letter"] "Alphabet.__init__" (defScope s_Alphabet___init__) f_ cdv A outer s H E).A.units + 64 < cLine := by omega
  have hu1 : (cxOf (L2.CX P w) P w K mg base ["self", "places", "letters", "valid", "letter"] "Alphabet.__init__" (defScope s_Alphabet___init__) f_ cdv A outer s H E).A.units + 1 < cLine := by omega
  have tk : Takes (cxOf (L2.CX P w) P w K mg base ["self", "places", "letters", "valid", "letter"] "Alphabet.__init__" (defScope s_Alphabet___init__) f_ cdv A outer s H E) (fun cls d _ H' => E cls d H') := takes_of rfl rfl rfl rfl
  unfold S_Alphabet___init__
  exact (sss_cons (ss_set N rfl (by first | exact Or.inl rfl | exact Or.inr rfl) (sd_and (SD.of (se_ch op_le op_le lk_le lk_le sd_int (sd_var (pv 1)) (sd_glob (v := .int 4) (pe_glob rfl c_MOST_PLACES ⟨_, rfl⟩) (fun _ _ => .int _)) (by with_unfolding_all rfl))) (sd_one (SD.of (se_ch op_le op_le lk_le lk_le sd_int (SD.of (se_b (pe_callB cr_len rfl bt.len b_len (sa_cons (sd_var (pv 2)) sa_nil rfl)) lk_len)) (sd_glob (v := .int 6) (pe_glob rfl c_MOST_LETTERS ⟨_, rfl⟩) (fun _ _ => .int _)) (by with_unfolding_all rfl))))) rfl (by first | exact Or.inl rfl | exact Or.inr rfl))
    (sss_cons (ss_for [] (passes_of rfl) rfl (si_seq (sd_var (pv 2))) (sg_name (pg_name (i := 4) N rfl (by first | exact Or.inl rfl | exact Or.inr rfl))) (sss_one (ss_set N rfl (by first | exact Or.inl rfl | exact Or.inr rfl) (sd_and (sd_var (pv 3)) (sd_one (SD.of (se_callN rfl G_fits (hr.mono (by decide)) (by rfl) D_fits.m D_fits.F.kp D_fits.b tk (sa_cons (sd_var (pv 4)) (sa_cons (sd_var (pv 1)) sa_nil rfl) rfl) (by decide) rfl rfl)))) rfl (by first | exact Or.inl rfl | exact Or.inr rfl))) (fun _ => rfl))
    (sss_cons (ss_if (sb_not (sb_t (sd_var (pv 3)) (fun _ => rfl))) (sss_one (ss_raise (c := 3) rfl tk (pmk_own PySem.F.excBase_ValueError Ex_InvalidAlphabet.ex Ex_InvalidAlphabet.g Ex_InvalidAlphabet.kp (raises_own Ex_InvalidAlphabet.b Ex_InvalidAlphabet.t) rfl))) sss_nil)
    (sss_cons (ss_att (sd_var (pv 0)) (sd_var (pv 1)) (C_Alphabet.at (i := 0) (by decide +kernel) rfl) rfl)
    (sss_one (ss_att (sd_var (pv 0)) (SD.of (se_b (pe_callTy call_tuple_of rfl bt.tuple b_tuple (sa_cons (SD.of (se_lc (own := [(("letter" : Str), 4)]) rfl N (si_seq (sd_var (pv 2))) (blkOk_by (by rfl)) (fun _ _ _ _ _ => by exact (sgw_name (pg_name (i := 4) N rfl (by first | exact Or.inl rfl | exact Or.inr rfl)) (by decide))) (fun _ _ _ _ _ => by exact sts_nil) (fun _ _ _ _ _ => by exact (SD.of (se_b (pe_callTy call_tuple_of rfl bt.tuple b_tuple (sa_cons (sd_var (pv 4)) sa_nil rfl)) lk_tuple))) (fun _ => rfl))) sa_nil rfl)) lk_tuple)) (C_Alphabet.at (i := 1) (by decide +kernel) rfl) rfl))))))
abbrev s_below_all : Stmt := top 10
theorem sc_below_all : FnScope ["alphabet", "word", "events", "found", "first", "inside", "second"] ["alphabet", "word", "events"] (defScope s_below_all) := ⟨rfl, rfl, rfl, by decide +kernel, rfl, by decide +kernel, by decide +kernel⟩
noncomputable def S_below_all : ST := (sSeq (sSet 3 (eAl (eLst aNil)))
  (sSeq (sFor (iR3 (aCons (ed (e2 fSub (ed (eA fLen (aCons (eVar 1) aNil))) (eC (.int 1)))) (aCons (ed (e1 fNeg (eC (.int 1)))) (aCons (ed (e1 fNeg (eC (.int 1)))) aNil)))) (tN 4) (sSeq (sSet 5 (ed (e2 fIn (eVar 4) (eVar 2))))
  (sSeq (sFor (iSeq (eVar 3)) (tN 6) (sSet 5 (vOr (eVar 5) (vAnd (ed (e2 fLt (eVar 4) (eVar 6))) (ed (e1 fNotB (ed (eCall 3 B_independent (aCons (eVar 0) (aCons (ed (e2 fIx (eVar 1) (eVar 4))) (aCons (ed (e2 fIx (eVar 1) (eVar 6))) aNil)))))))))) [6])
  (sIf (eT (eVar 5)) (sX (ed (eM "list" fAppend (eVar 3) (aCons (eVar 4) aNil)))) sPass))) [4, 5, 6])
  (sRet (Z.e1 fRevL (eVar 3)))))
noncomputable def B_below_all : BD := body 7 S_below_all
theorem ok_below_all {f_ : Addr} {fd_ : FuncData} {f_independent : Addr} {fd_independent : FuncData} (F0 : Fun K "below_all" "below_all" s_below_all f_ fd_) (bt : Bt mg) (D_independent : Dg K mg "independent" "independent" s_independent ["alphabet", "first", "second"] f_independent fd_independent) (G_independent : FnOk P w K mg base (L2.CX P w) 1 f_independent fd_independent ["alphabet", "first", "second"] (spB ca 3 B_independent)) :
    FnOk P w K mg base (L2.CX P w) 2 f_ fd_ ["alphabet", "word", "events"] (spB ca 3 B_below_all) := by
  have N : (["alphabet", "word", "events", "found", "first", "inside", "second"] : List Str).Nodup := sc_below_all.nd
  refine def_ok F0 sc_below_all fun cdv A outer s H E hr => ?_
  have hu65 : (cxOf (L2.CX P w) P w K mg base ["alphabet", "word", "events", "found", "first", "inside", "second"] "below_all" (defScope s_below_all) f_ cdv A outer s H E).A.units + 65 < cLine := by have := hr.un; show (A.deeper _).units + 65 < cLine; omega
  have hu64 : (cxOf (L2.CX P w) P w K mg base ["alphabet", "word", "events", "found", "first", "inside", "second"] "below_all" (defScope s_below_all) f_ cdv A outer s H E).A.units + 64 < cLine := by omega
  have hu1 : (cxOf (L2.CX P w) P w K mg base ["alphabet", "word", "events", "found", "first", "inside", "second"] "below_all" (defScope s_below_all) f_ cdv A outer s H E).A.units + 1 < cLine := by omega
  have tk : Takes (cxOf (L2.CX P w) P w K mg base ["alphabet", "word", "events", "found", "first", "inside", "second"] "below_all" (defScope s_below_all) f_ cdv A outer s H E) (fun cls d _ H' => E cls d H') := takes_of rfl rfl rfl rfl
  unfold S_below_all
  exact (sss_cons (ss_set N rfl (by first | exact Or.inl rfl | exact Or.inr rfl) (sd_al (se_lst sa_nil)) rfl (by first | exact Or.inl rfl | exact Or.inr rfl))
    (sss_cons (ss_for [4, 5, 6] (passes_of rfl) rfl (si_r3 (pi_range3 rfl bt.range (sa_cons (SD.of (se_op op_sub lk_sub (SD.of (se_b (pe_callB cr_len rfl bt.len b_len (sa_cons (sd_var (pv 1)) sa_nil rfl)) lk_len)) sd_int)) (sa_cons (SD.of (se_un un_neg lk_neg sd_int)) (sa_cons (SD.of (se_un un_neg lk_neg sd_int)) sa_nil rfl) rfl) rfl))) (sg_name (pg_name (i := 4) N rfl (by first | exact Or.inl rfl | exact Or.inr rfl))) (sss_cons (ss_set N rfl (by first | exact Or.inl rfl | exact Or.inr rfl) (SD.of (se_cmp (op_in hu65) lk_in (sd_var (pv 4)) (sd_var (pv 2)) rfl)) rfl (by first | exact Or.inl rfl | exact Or.inr rfl))
    (sss_cons (ss_for [6] (passes_of rfl) rfl (si_seq (sd_var (pv 3))) (sg_name (pg_name (i := 6) N rfl (by first | exact Or.inl rfl | exact Or.inr rfl))) (sss_one (ss_set N rfl (by first | exact Or.inl rfl | exact Or.inr rfl) (sd_or (sd_var (pv 5)) (sd_one (sd_and (SD.of (se_cmp op_lt lk_lt (sd_var (pv 4)) (sd_var (pv 6)) (nomark _))) (sd_one (SD.of (se_not (SD.of (se_callN rfl G_independent (hr.mono (by decide)) (by rfl) D_independent.m D_independent.F.kp D_independent.b tk (sa_cons (sd_var (pv 0)) (sa_cons (SD.of (se_ix hu1 (sd_var (pv 1)) (sd_var (pv 4)) (fun _ _ => rfl))) (sa_cons (SD.of (se_ix hu1 (sd_var (pv 1)) (sd_var (pv 6)) (fun _ _ => rfl))) sa_nil rfl) rfl) rfl) (by decide) rfl rfl)))))))) rfl (by first | exact Or.inl rfl | exact Or.inr rfl))) (fun _ => rfl))
    (sss_one (ss_if (sb_t (sd_var (pv 5)) (fun _ => rfl)) (sss_one (ss_expr (SD.of (se_m (pe_bm PySem.F.plainAttrs_list PySem.F.slot_list_append PySem.F.type_list_append mt_append (sd_var (pv 3)) (sa_cons (sd_var (pv 4)) sa_nil rfl)) lk_append)) rfl)) sss_nil)))) (fun _ => rfl))
    (sss_one (ss_ret (se_rev (sd_var (pv 3)))))))
abbrev s_Matrix_happen : Stmt := inClass (top 15) 1
theorem sc_Matrix_happen : FnScope ["self", "letter", "there", "known", "place", "found", "other", "rows", "event"] ["self", "letter"] (defScope s_Matrix_happen) := ⟨rfl, rfl, rfl, by decide +kernel, rfl, by decide +kernel, by decide +kernel⟩
noncomputable def S_Matrix_happen : ST := (sSeq (sSet 2 (ed (e2 fIx (ed (e1 (fFld [0] 1) (ed (e1 (fFld [1] 0) (eVar 0))))) (eVar 1))))
  (sSeq (sSet 3 (ed (eComp (iSeq (eVar 2)) (tN 4) bYes (ed (e2 fIx (ed (e1 (fFld [1] 1) (eVar 0))) (eVar 4))) [4])))
  (sSeq (sSet 5 (eAl (eLst aNil)))
  (sSeq (sFor (iR1 (aCons (ed (e1 (fFld [0] 0) (ed (e1 (fFld [1] 0) (eVar 0))))) aNil)) (tN 6) (sX (ed (eM "list" fAppend (eVar 5) (aCons (ed (eCall 1 B_greatest (aCons (ed (eComp (iSeq (eVar 3)) (tN 7) bYes (ed (e2 fIx (eVar 7) (eVar 6))) [7])) aNil))) aNil)))) [6])
  (sSeq (sSet 8 (eAl (eA fList (aCons (ed (eCall 1 B_greatest (aCons (ed (eComp (iSeq (eVar 2)) (tN 4) bYes (ed (e2 fIx (eVar 5) (eVar 4))) [4])) aNil))) aNil))))
  (sSeq (sAugS f1 (eVar 8) (eVar 1) (eC (.int 1)))
  (sSeq (sFor (iSeq (eVar 2)) (tN 4) (sPut (eVar 5) (eVar 4) (ed (eA fTuple (aCons (eVar 8) aNil)))) [4])
  (sFor (iSeq (eVar 2)) (tN 4) (sPut (ed (e1 (fFld [1] 1) (eVar 0))) (eVar 4) (ed (eA fTuple (aCons (eVar 5) aNil)))) [4]))))))))
noncomputable def B_Matrix_happen : BD := body 9 S_Matrix_happen
theorem ok_Matrix_happen {f_ : Addr} {fd_ : FuncData} {f_greatest : Addr} {fd_greatest : FuncData} (F0 : Fun K "happen" "Matrix.happen" s_Matrix_happen f_ fd_) (bt : Bt mg) (C_Alphabet : ClF ca K 0 ["places", "letters"]) (C_Matrix : ClF ca K 1 ["alphabet", "_rows"]) (D_greatest : Dg K mg "greatest" "greatest" s_greatest ["rows"] f_greatest fd_greatest) (G_greatest : FnOk P w K mg base (L2.CX P w) 1 f_greatest fd_greatest ["rows"] (spB ca 1 B_greatest)) :
    FnOk P w K mg base (L2.CX P w) 2 f_ fd_ ["self", "letter"] (spB ca 2 B_Matrix_happen) := by
  have N : (["self", "letter", "there", "known", "place", "found", "other", "rows", "event"] : List Str).Nodup := sc_Matrix_happen.nd
  refine def_ok F0 sc_Matrix_happen fun cdv A outer s H E hr => ?_
  have hu65 : (cxOf (L2.CX P w) P w K mg base ["self", "letter", "there", "known", "place", "found", "other", "rows", "event"] "Matrix.happen" (defScope s_Matrix_happen) f_ cdv A outer s H E).A.units + 65 < cLine := by have := hr.un; show (A.deeper _).units + 65 < cLine; omega
  have hu64 : (cxOf (L2.CX P w) P w K mg base ["self", "letter", "there", "known", "place", "found", "other", "rows", "event"] "Matrix.happen" (defScope s_Matrix_happen) f_ cdv A outer s H E).A.units + 64 < cLine := by omega
  have hu1 : (cxOf (L2.CX P w) P w K mg base ["self", "letter", "there", "known", "place", "found", "other", "rows", "event"] "Matrix.happen" (defScope s_Matrix_happen) f_ cdv A outer s H E).A.units + 1 < cLine := by omega
  have tk : Takes (cxOf (L2.CX P w) P w K mg base ["self", "letter", "there", "known", "place", "found", "other", "rows", "event"] "Matrix.happen" (defScope s_Matrix_happen) f_ cdv A outer s H E) (fun cls d _ H' => E cls d H') := takes_of rfl rfl rfl rfl
  unfold S_Matrix_happen
  exact (sss_cons (ss_set N rfl (by first | exact Or.inl rfl | exact Or.inr rfl) (SD.of (se_ix hu1 (SD.of (se_fld (SD.of (se_fld (sd_var (pv 0)) rfl (C_Matrix.at (i := 0) (by decide +kernel) rfl))) rfl (C_Alphabet.at (i := 1) (by decide +kernel) rfl))) (sd_var (pv 1)) (fun _ _ => rfl))) rfl (by first | exact Or.inl rfl | exact Or.inr rfl))
    (sss_cons (ss_setLc (own := [(("place" : Str), 4)]) rfl N rfl rfl (sw_true rfl rfl rfl (by decide +kernel)) (si_seq (sd_var (pv 2))) (blkOk_by (by rfl)) (fun _ _ _ _ _ => by exact (sgw_name (pg_name (i := 4) N rfl (by first | exact Or.inl rfl | exact Or.inr rfl)) (by decide))) (fun _ _ _ _ _ => by exact sts_nil) (fun _ _ _ _ _ => by exact (SD.of (se_ix hu1 (SD.of (se_fld (sd_var (pv 0)) rfl (C_Matrix.at (i := 1) (by decide +kernel) rfl))) (sd_var (pv 4)) (fun _ _ => rfl)))) (fun _ => rfl))
    (sss_cons (ss_set N rfl (by first | exact Or.inl rfl | exact Or.inr rfl) (sd_al (se_lst sa_nil)) rfl (by first | exact Or.inl rfl | exact Or.inr rfl))
    (sss_cons (ss_for [6] (passes_of rfl) rfl (si_r1 (pi_range1 rfl bt.range (sa_cons (SD.of (se_fld (SD.of (se_fld (sd_var (pv 0)) rfl (C_Matrix.at (i := 0) (by decide +kernel) rfl))) rfl (C_Alphabet.at (i := 0) (by decide +kernel) rfl))) sa_nil rfl))) (sg_name (pg_name (i := 6) N rfl (by first | exact Or.inl rfl | exact Or.inr rfl))) (sss_one (ss_expr (SD.of (se_m (pe_bm PySem.F.plainAttrs_list PySem.F.slot_list_append PySem.F.type_list_append mt_append (sd_var (pv 5)) (sa_cons (SD.of (se_callN rfl G_greatest (hr.mono (by decide)) (by rfl) D_greatest.m D_greatest.F.kp D_greatest.b tk (sa_cons (SD.of (se_lc (own := [(("rows" : Str), 7)]) rfl N (si_seq (sd_var (pv 3))) (blkOk_by (by rfl)) (fun _ _ _ _ _ => by exact (sgw_name (pg_name (i := 7) N rfl (by first | exact Or.inl rfl | exact Or.inr rfl)) (by decide))) (fun _ _ _ _ _ => by exact sts_nil) (fun _ _ _ _ _ => by exact (SD.of (se_ix hu1 (sd_var (pv 7)) (sd_var (pv 6)) (fun _ _ => rfl)))) (fun _ => rfl))) sa_nil rfl) (by decide) rfl rfl)) sa_nil rfl)) lk_append)) rfl)) (fun _ => rfl))
    (sss_cons (ss_set N rfl (by first | exact Or.inl rfl | exact Or.inr rfl) (sd_al (se_b (pe_callTy call_list_of rfl bt.list b_list (sa_cons (SD.of (se_callN rfl G_greatest (hr.mono (by decide)) (by rfl) D_greatest.m D_greatest.F.kp D_greatest.b tk (sa_cons (SD.of (se_lc (own := [(("place" : Str), 4)]) rfl N (si_seq (sd_var (pv 2))) (blkOk_by (by rfl)) (fun _ _ _ _ _ => by exact (sgw_name (pg_name (i := 4) N rfl (by first | exact Or.inl rfl | exact Or.inr rfl)) (by decide))) (fun _ _ _ _ _ => by exact sts_nil) (fun _ _ _ _ _ => by exact (SD.of (se_ix hu1 (sd_var (pv 5)) (sd_var (pv 4)) (fun _ _ => rfl)))) (fun _ => rfl))) sa_nil rfl) (by decide) rfl rfl)) sa_nil rfl)) lk_list)) rfl (by first | exact Or.inl rfl | exact Or.inr rfl))
    (sss_cons (ss_augS hu1 (sd_var (pv 8)) (sd_var (pv 1)) sd_int iop_add lk_addI (by intros; rfl))
    (sss_cons (ss_for [4] (passes_of rfl) rfl (si_seq (sd_var (pv 2))) (sg_name (pg_name (i := 4) N rfl (by first | exact Or.inl rfl | exact Or.inr rfl))) (sss_one (ss_put hu1 (sd_var (pv 5)) (sd_var (pv 4)) (SD.of (se_b (pe_callTy call_tuple_of rfl bt.tuple b_tuple (sa_cons (sd_var (pv 8)) sa_nil rfl)) lk_tuple)) (fun _ => rfl) rfl rfl rfl)) (fun _ => rfl))
    (sss_one (ss_for [4] (passes_of rfl) rfl (si_seq (sd_var (pv 2))) (sg_name (pg_name (i := 4) N rfl (by first | exact Or.inl rfl | exact Or.inr rfl))) (sss_one (ss_put hu1 (SD.of (se_fld (sd_var (pv 0)) rfl (C_Matrix.at (i := 1) (by decide +kernel) rfl))) (sd_var (pv 4)) (SD.of (se_b (pe_callTy call_tuple_of rfl bt.tuple b_tuple (sa_cons (sd_var (pv 5)) sa_nil rfl)) lk_tuple)) (fun _ => rfl) rfl rfl rfl)) (fun _ => rfl))))))))))
abbrev s__law_alphabet : Stmt := top 25
theorem sc__law_alphabet : FnScope ["draws", "most_places", "most_letters", "places", "letters", "k", "chosen", "extra"] ["draws", "most_places", "most_letters"] (defScope s__law_alphabet) := ⟨rfl, rfl, rfl, by decide +kernel, rfl, by decide +kernel, by decide +kernel⟩
noncomputable def S__law_alphabet : ST := (sSeq (sSet 3 (ed (e2 fAdd (eC (.int 1)) (ed (eCall 2 B__law_take (aCons (eVar 0) (aCons (eVar 1) aNil)))))))
  (sSeq (sSet 4 (eAl (eLst aNil)))
  (sSeq (sFor (iR1 (aCons (ed (e2 fAdd (eC (.int 1)) (ed (eCall 2 B__law_take (aCons (eVar 0) (aCons (eVar 2) aNil)))))) aNil)) (tN 5) (sSeq (sSet 6 (eAl (eDisp (pCons (ed (eCall 2 B__law_take (aCons (eVar 0) (aCons (eVar 3) aNil)))) (eC (.bl true)) pNil))))
  (sSeq (sFor (iR1 (aCons (ed (eCall 2 B__law_take (aCons (eVar 0) (aCons (eC (.int 3)) aNil)))) aNil)) (tN 7) (sPut (eVar 6) (ed (eCall 2 B__law_take (aCons (eVar 0) (aCons (eVar 3) aNil)))) (eC (.bl true))) [7])
  (sX (ed (eM "list" fAppend (eVar 4) (aCons (ed (eA fTuple (aCons (ed (eA fSorted (aCons (eVar 6) aNil))) aNil))) aNil)))))) [5, 6, 7])
  (sRet (ev (eTup (aCons (eVar 3) (aCons (eFz (eVar 4)) aNil))))))))
noncomputable def B__law_alphabet : BD := body 8 S__law_alphabet
theorem ok__law_alphabet {f_ : Addr} {fd_ : FuncData} {f__law_take : Addr} {fd__law_take : FuncData} (F0 : Fun K "_law_alphabet" "_law_alphabet" s__law_alphabet f_ fd_) (bt : Bt mg) (D__law_take : Dg K mg "_law_take" "_law_take" s__law_take ["draws", "limit"] f__law_take fd__law_take) (G__law_take : FnOk P w K mg base (L2.CX P w) 1 f__law_take fd__law_take ["draws", "limit"] (spB ca 2 B__law_take)) :
    FnOk P w K mg base (L2.CX P w) 2 f_ fd_ ["draws", "most_places", "most_letters"] (spB ca 3 B__law_alphabet) := by
  have N : (["draws", "most_places", "most_letters", "places", "letters", "k", "chosen", "extra"] : List Str).Nodup := sc__law_alphabet.nd
  refine def_ok F0 sc__law_alphabet fun cdv A outer s H E hr => ?_
  have hu65 : (cxOf (L2.CX P w) P w K mg base ["draws", "most_places", "most_letters", "places", "letters", "k", "chosen", "extra"] "_law_alphabet" (defScope s__law_alphabet) f_ cdv A outer s H E).A.units + 65 < cLine := by have := hr.un; show (A.deeper _).units + 65 < cLine; omega
  have hu64 : (cxOf (L2.CX P w) P w K mg base ["draws", "most_places", "most_letters", "places", "letters", "k", "chosen", "extra"] "_law_alphabet" (defScope s__law_alphabet) f_ cdv A outer s H E).A.units + 64 < cLine := by omega
  have hu1 : (cxOf (L2.CX P w) P w K mg base ["draws", "most_places", "most_letters", "places", "letters", "k", "chosen", "extra"] "_law_alphabet" (defScope s__law_alphabet) f_ cdv A outer s H E).A.units + 1 < cLine := by omega
  have tk : Takes (cxOf (L2.CX P w) P w K mg base ["draws", "most_places", "most_letters", "places", "letters", "k", "chosen", "extra"] "_law_alphabet" (defScope s__law_alphabet) f_ cdv A outer s H E) (fun cls d _ H' => E cls d H') := takes_of rfl rfl rfl rfl
  unfold S__law_alphabet
  exact (sss_cons (ss_set N rfl (by first | exact Or.inl rfl | exact Or.inr rfl) (SD.of (se_op op_addA lk_add sd_int (SD.of (se_callN rfl G__law_take (hr.mono (by decide)) (by rfl) D__law_take.m D__law_take.F.kp D__law_take.b tk (sa_cons (sd_var (pv 0)) (sa_cons (sd_var (pv 1)) sa_nil rfl) rfl) (by decide) rfl rfl)))) rfl (by first | exact Or.inl rfl | exact Or.inr rfl))
    (sss_cons (ss_set N rfl (by first | exact Or.inl rfl | exact Or.inr rfl) (sd_al (se_lst sa_nil)) rfl (by first | exact Or.inl rfl | exact Or.inr rfl))
    (sss_cons (ss_for [5, 6, 7] (passes_of rfl) rfl (si_r1 (pi_range1 rfl bt.range (sa_cons (SD.of (se_op op_addA lk_add sd_int (SD.of (se_callN rfl G__law_take (hr.mono (by decide)) (by rfl) D__law_take.m D__law_take.F.kp D__law_take.b tk (sa_cons (sd_var (pv 0)) (sa_cons (sd_var (pv 2)) sa_nil rfl) rfl) (by decide) rfl rfl)))) sa_nil rfl))) (sg_name (pg_name (i := 5) N rfl (by first | exact Or.inl rfl | exact Or.inr rfl))) (sss_cons (ss_set N rfl (by first | exact Or.inl rfl | exact Or.inr rfl) (sd_al (se_disp (pe_disp (pps_cons (SD.of (se_callN rfl G__law_take (hr.mono (by decide)) (by rfl) D__law_take.m D__law_take.F.kp D__law_take.b tk (sa_cons (sd_var (pv 0)) (sa_cons (sd_var (pv 3)) sa_nil rfl) rfl) (by decide) rfl rfl)) sd_bl pps_nil) (by rfl) (by rfl) (fun z => by cases z) (by decide)) (pp_cons pp_nil))) rfl (by first | exact Or.inl rfl | exact Or.inr rfl))
    (sss_cons (ss_for [7] (passes_of rfl) rfl (si_r1 (pi_range1 rfl bt.range (sa_cons (SD.of (se_callN rfl G__law_take (hr.mono (by decide)) (by rfl) D__law_take.m D__law_take.F.kp D__law_take.b tk (sa_cons (sd_var (pv 0)) (sa_cons sd_int sa_nil rfl) rfl) (by decide) rfl rfl)) sa_nil rfl))) (sg_name (pg_name (i := 7) N rfl (by first | exact Or.inl rfl | exact Or.inr rfl))) (sss_one (ss_put hu1 (sd_var (pv 6)) (SD.of (se_callN rfl G__law_take (hr.mono (by decide)) (by rfl) D__law_take.m D__law_take.F.kp D__law_take.b tk (sa_cons (sd_var (pv 0)) (sa_cons (sd_var (pv 3)) sa_nil rfl) rfl) (by decide) rfl rfl)) sd_bl (fun _ => rfl) rfl rfl rfl)) (fun _ => rfl))
    (sss_one (ss_expr (SD.of (se_m (pe_bm PySem.F.plainAttrs_list PySem.F.slot_list_append PySem.F.type_list_append mt_append (sd_var (pv 4)) (sa_cons (SD.of (se_b (pe_callTy call_tuple_of rfl bt.tuple b_tuple (sa_cons (SD.of (se_b (pe_callB (cr_sorted' rfl) rfl bt.sorted b_sorted (sa_cons (sd_var (pv 6)) sa_nil rfl)) lk_sorted)) sa_nil rfl)) lk_tuple)) sa_nil rfl)) lk_append)) rfl)))) (fun _ => rfl))
    (sss_one (ss_ret (SE.of (sd_tup (sa_cons (sd_var (pv 3)) (sa_cons (sd_fz (sd_var (pv 4))) sa_nil rfl) rfl))))))))
abbrev s__law_view : Stmt := top 27
theorem sc__law_view : FnScope ["letters", "word", "place", "inside", "at", "other"] ["letters", "word", "place"] (defScope s__law_view) := ⟨rfl, rfl, rfl, by decide +kernel, rfl, by decide +kernel, by decide +kernel⟩
noncomputable def S__law_view : ST := (sSeq (sSet 3 (eAl eNewK))
  (sSeq (sFor (iR3 (aCons (ed (e2 fSub (ed (eA fLen (aCons (eVar 1) aNil))) (eC (.int 1)))) (aCons (ed (e2 fSub (eC (.int 0)) (eC (.int 1)))) (aCons (ed (e2 fSub (eC (.int 0)) (eC (.int 1)))) aNil)))) (tN 4) (sIf (bOr (eTB (e2 fIn (eVar 2) (ed (e2 fIx (eVar 0) (ed (e2 fIx (eVar 1) (eVar 4))))))) (eTB (e2 fGt (ed (eA fLen (aCons (ed (eLk 3 (eComp (iKey (eVar 3)) (tN 5) (bAnd (eTB (e2 fGt (eVar 5) (eVar 4))) (eT (ed (eCall 3 B__law_meet (aCons (eVar 0) (aCons (ed (e2 fIx (eVar 1) (eVar 4))) (aCons (ed (e2 fIx (eVar 1) (eVar 5))) aNil))))))) (eC (.int 1)) [5]))) aNil))) (eC (.int 0))))) (sPut (eVar 3) (eVar 4) (eC (.bl true))) sPass) [4])
  (sRet (eA fSorted (aCons (eVar 3) aNil)))))
noncomputable def B__law_view : BD := body 6 S__law_view
theorem ok__law_view {f_ : Addr} {fd_ : FuncData} {f__law_meet : Addr} {fd__law_meet : FuncData} (F0 : Fun K "_law_view" "_law_view" s__law_view f_ fd_) (bt : Bt mg) (D__law_meet : Dg K mg "_law_meet" "_law_meet" s__law_meet ["letters", "a", "b"] f__law_meet fd__law_meet) (G__law_meet : FnOk P w K mg base (L2.CX P w) 1 f__law_meet fd__law_meet ["letters", "a", "b"] (spB ca 3 B__law_meet)) :
    FnOk P w K mg base (L2.CX P w) 2 f_ fd_ ["letters", "word", "place"] (spB ca 3 B__law_view) := by
  have N : (["letters", "word", "place", "inside", "at", "other"] : List Str).Nodup := sc__law_view.nd
  refine def_ok F0 sc__law_view fun cdv A outer s H E hr => ?_
  have hu65 : (cxOf (L2.CX P w) P w K mg base ["letters", "word", "place", "inside", "at", "other"] "_law_view" (defScope s__law_view) f_ cdv A outer s H E).A.units + 65 < cLine := by have := hr.un; show (A.deeper _).units + 65 < cLine; omega
  have hu64 : (cxOf (L2.CX P w) P w K mg base ["letters", "word", "place", "inside", "at", "other"] "_law_view" (defScope s__law_view) f_ cdv A outer s H E).A.units + 64 < cLine := by omega
  have hu1 : (cxOf (L2.CX P w) P w K mg base ["letters", "word", "place", "inside", "at", "other"] "_law_view" (defScope s__law_view) f_ cdv A outer s H E).A.units + 1 < cLine := by omega
  have tk : Takes (cxOf (L2.CX P w) P w K mg base ["letters", "word", "place", "inside", "at", "other"] "_law_view" (defScope s__law_view) f_ cdv A outer s H E) (fun cls d _ H' => E cls d H') := takes_of rfl rfl rfl rfl
  unfold S__law_view
  exact (sss_cons (ss_set N rfl (by first | exact Or.inl rfl | exact Or.inr rfl) (sd_al se_newK) rfl (by first | exact Or.inl rfl | exact Or.inr rfl))
    (sss_cons (ss_for [4] (passes_of rfl) rfl (si_r3 (pi_range3 rfl bt.range (sa_cons (SD.of (se_op op_sub lk_sub (SD.of (se_b (pe_callB cr_len rfl bt.len b_len (sa_cons (sd_var (pv 1)) sa_nil rfl)) lk_len)) sd_int)) (sa_cons (SD.of (se_op op_sub lk_sub sd_int sd_int)) (sa_cons (SD.of (se_op op_sub lk_sub sd_int sd_int)) sa_nil rfl) rfl) rfl))) (sg_name (pg_name (i := 4) N rfl (by first | exact Or.inl rfl | exact Or.inr rfl))) (sss_one (ss_if (sb_w (sw_or (sb_cmp (op_in hu65) lk_in (sd_var (pv 2)) (SD.of (se_ix hu1 (sd_var (pv 0)) (SD.of (se_ix hu1 (sd_var (pv 1)) (sd_var (pv 4)) (fun _ _ => rfl))) (fun _ _ => rfl))) rfl) (sw_or1 (sb_cmp op_gt lk_gt (SD.of (se_b (pe_callB cr_len rfl bt.len b_len (sa_cons (SD.of (se_lk 3 (pe_lock (se_lc (own := [(("other" : Str), 5)]) rfl N (si_key (sd_var (pv 3))) (blkOk_by (by rfl)) (fun _ _ _ _ _ => by exact (sgw_name (pg_name (i := 5) N rfl (by first | exact Or.inl rfl | exact Or.inr rfl)) (by decide))) (fun _ _ _ _ _ => by exact (sts_one (sb_w (sw_and (sb_cmp op_gt lk_gt (sd_var (pv 5)) (sd_var (pv 4)) (nomark _)) (sw_and1 (sb_t (SD.of (se_callN rfl G__law_meet (hr.mono (by decide)) (by rfl) D__law_meet.m D__law_meet.F.kp D__law_meet.b tk0 (sa_cons (sd_var (pv 0)) (sa_cons (SD.of (se_ix hu1 (sd_var (pv 1)) (sd_var (pv 4)) (fun _ _ => rfl))) (sa_cons (SD.of (se_ix hu1 (sd_var (pv 1)) (sd_var (pv 5)) (fun _ _ => rfl))) sa_nil rfl) rfl) rfl) (by decide) rfl rfl)) (fun _ => rfl))))))) (fun _ _ _ _ _ => by exact sd_int) (fun _ => rfl))))) sa_nil rfl)) lk_len)) sd_int (nomark _))))) (sss_one (ss_put hu1 (sd_var (pv 3)) (sd_var (pv 4)) sd_bl (fun _ => rfl) rfl rfl rfl)) sss_nil)) (fun _ => rfl))
    (sss_one (ss_ret (se_b (pe_callB (cr_sorted' rfl) rfl bt.sorted b_sorted (sa_cons (sd_var (pv 3)) sa_nil rfl)) lk_sorted)))))
abbrev s_view : Stmt := top 12
theorem sc_view : FnScope ["alphabet", "word", "place"] ["alphabet", "word", "place"] (defScope s_view) := ⟨rfl, rfl, rfl, by decide +kernel, rfl, by decide +kernel, by decide +kernel⟩
noncomputable def S_view : ST := (sRet (eCall 3 B_below_all (aCons (eVar 0) (aCons (eVar 1) (aCons (ed (eCall 3 B_events_at (aCons (eVar 0) (aCons (eVar 1) (aCons (eVar 2) aNil))))) aNil)))))
noncomputable def B_view : BD := body 3 S_view
theorem ok_view {f_ : Addr} {fd_ : FuncData} {f_below_all : Addr} {fd_below_all : FuncData} {f_events_at : Addr} {fd_events_at : FuncData} (F0 : Fun K "view" "view" s_view f_ fd_) (D_below_all : Dg K mg "below_all" "below_all" s_below_all ["alphabet", "word", "events"] f_below_all fd_below_all) (G_below_all : FnOk P w K mg base (L2.CX P w) 2 f_below_all fd_below_all ["alphabet", "word", "events"] (spB ca 3 B_below_all)) (D_events_at : Dg K mg "events_at" "events_at" s_events_at ["alphabet", "word", "place"] f_events_at fd_events_at) (G_events_at : FnOk P w K mg base (L2.CX P w) 1 f_events_at fd_events_at ["alphabet", "word", "place"] (spB ca 3 B_events_at)) :
    FnOk P w K mg base (L2.CX P w) 3 f_ fd_ ["alphabet", "word", "place"] (spB ca 3 B_view) := by
  have N : (["alphabet", "word", "place"] : List Str).Nodup := sc_view.nd
  refine def_ok F0 sc_view fun cdv A outer s H E hr => ?_
  have hu65 : (cxOf (L2.CX P w) P w K mg base ["alphabet", "word", "place"] "view" (defScope s_view) f_ cdv A outer s H E).A.units + 65 < cLine := by have := hr.un; show (A.deeper _).units + 65 < cLine; omega
  have hu64 : (cxOf (L2.CX P w) P w K mg base ["alphabet", "word", "place"] "view" (defScope s_view) f_ cdv A outer s H E).A.units + 64 < cLine := by omega
  have hu1 : (cxOf (L2.CX P w) P w K mg base ["alphabet", "word", "place"] "view" (defScope s_view) f_ cdv A outer s H E).A.units + 1 < cLine := by omega
  have tk : Takes (cxOf (L2.CX P w) P w K mg base ["alphabet", "word", "place"] "view" (defScope s_view) f_ cdv A outer s H E) (fun cls d _ H' => E cls d H') := takes_of rfl rfl rfl rfl
  unfold S_view
  exact (sss_one (ss_ret (se_callN rfl G_below_all (hr.mono (by decide)) (by rfl) D_below_all.m D_below_all.F.kp D_below_all.b tk (sa_cons (sd_var (pv 0)) (sa_cons (sd_var (pv 1)) (sa_cons (SD.of (se_callN rfl G_events_at (hr.mono (by decide)) (by rfl) D_events_at.m D_events_at.F.kp D_events_at.b tk (sa_cons (sd_var (pv 0)) (sa_cons (sd_var (pv 1)) (sa_cons (sd_var (pv 2)) sa_nil rfl) rfl) rfl) (by decide) rfl rfl)) sa_nil rfl) rfl) rfl) (by decide) rfl rfl)))
abbrev s_gathered : Stmt := top 20
theorem sc_gathered : FnScope ["alphabet", "word", "ledger", "letter", "found", "place"] ["alphabet", "word"] (defScope s_gathered) := ⟨rfl, rfl, rfl, by decide +kernel, rfl, by decide +kernel, by decide +kernel⟩
noncomputable def S_gathered : ST := (sSeq (sSet 2 (ed (eMkK 2 2 B_Ledger___init__ (aCons (eVar 0) aNil))))
  (sSeq (sFor (iSeq (eVar 1)) (tN 3) (sX (ed (eMeth clN 2 2 B_Ledger_happen (eVar 2) (aCons (eVar 3) aNil)))) [])
  (sSeq (sSet 4 (eAl (eLst aNil)))
  (sSeq (sFor (iR1 (aCons (ed (e1 (fFld [0] 0) (eVar 0))) aNil)) (tN 5) (sX (ed (eM "list" fAppend (eVar 4) (aCons (ed (eA fTuple (aCons (ed (eComp (iR1 (aCons (ed (eA fLen (aCons (ed (e1 (fFld [0] 1) (eVar 0))) aNil))) aNil)) (tN 3) bYes (ed (eMeth clN 2 3 B_Ledger_known (eVar 2) (aCons (eVar 5) (aCons (eVar 3) aNil)))) [3])) aNil))) aNil)))) [5])
  (sRet (ev (eVar 4)))))))
noncomputable def B_gathered : BD := body 6 S_gathered
theorem ok_gathered {f_ : Addr} {fd_ : FuncData} {f_Ledger_happen : Addr} {fd_Ledger_happen : FuncData} {f_Ledger_known : Addr} {fd_Ledger_known : FuncData} {f_Ledger C_Ledger_ : Addr} {fd_Ledger : FuncData} (F0 : Fun K "gathered" "gathered" s_gathered f_ fd_) (bt : Bt mg) (C_Alphabet : ClF ca K 0 ["places", "letters"]) (C_Ledger : ClF ca K 2 ["_alphabet", "_rows"]) (D_Ledger_happen : MtF K ca 2 "happen" s_Ledger_happen ["self", "letter"] f_Ledger_happen fd_Ledger_happen) (G_Ledger_happen : FnOk P w K mg base (L2.CX P w) 1 f_Ledger_happen fd_Ledger_happen ["self", "letter"] (spB ca 2 B_Ledger_happen)) (D_Ledger_known : MtF K ca 2 "known" s_Ledger_known ["self", "place", "letter"] f_Ledger_known fd_Ledger_known) (G_Ledger_known : FnOk P w K mg base (L2.CX P w) 1 f_Ledger_known fd_Ledger_known ["self", "place", "letter"] (spB ca 3 B_Ledger_known)) (M_Ledger : Mf K mg ca "Ledger" 2 ["self", "alphabet"] C_Ledger_ f_Ledger fd_Ledger) (G_Ledger : FnOk P w K mg base (L2.CX P w) 1 f_Ledger fd_Ledger ["self", "alphabet"] (spB ca 2 B_Ledger___init__)) :
    FnOk P w K mg base (L2.CX P w) 3 f_ fd_ ["alphabet", "word"] (spB ca 2 B_gathered) := by
  have N : (["alphabet", "word", "ledger", "letter", "found", "place"] : List Str).Nodup := sc_gathered.nd
  refine def_ok F0 sc_gathered fun cdv A outer s H E hr => ?_
  have hu65 : (cxOf (L2.CX P w) P w K mg base ["alphabet", "word", "ledger", "letter", "found", "place"] "gathered" (defScope s_gathered) f_ cdv A outer s H E).A.units + 65 < cLine := by have := hr.un; show (A.deeper _).units + 65 < cLine; omega
  have hu64 : (cxOf (L2.CX P w) P w K mg base ["alphabet", "word", "ledger", "letter", "found", "place"] "gathered" (defScope s_gathered) f_ cdv A outer s H E).A.units + 64 < cLine := by omega
  have hu1 : (cxOf (L2.CX P w) P w K mg base ["alphabet", "word", "ledger", "letter", "found", "place"] "gathered" (defScope s_gathered) f_ cdv A outer s H E).A.units + 1 < cLine := by omega
  have tk : Takes (cxOf (L2.CX P w) P w K mg base ["alphabet", "word", "ledger", "letter", "found", "place"] "gathered" (defScope s_gathered) f_ cdv A outer s H E) (fun cls d _ H' => E cls d H') := takes_of rfl rfl rfl rfl
  unfold S_gathered
  exact (sss_cons (ss_set N rfl (by first | exact Or.inl rfl | exact Or.inr rfl) (SD.of (se_mkK (cn := 2) rfl M_Ledger.ad M_Ledger.mkk G_Ledger (hr.mono (by decide)) (by rfl) M_Ledger.m M_Ledger.b tk (sa_cons (sd_var (pv 0)) sa_nil rfl) (by decide) rfl rfl)) rfl (by first | exact Or.inl rfl | exact Or.inr rfl))
    (sss_cons (ss_for [] (passes_of rfl) rfl (si_seq (sd_var (pv 1))) (sg_name (pg_name (i := 3) N rfl (by first | exact Or.inl rfl | exact Or.inr rfl))) (sss_one (ss_expr (SD.of (se_meth clN_ok (cn := 2) rfl C_Ledger.cl D_Ledger_happen G_Ledger_happen (hr.mono (by decide)) tk (sd_var (pv 2)) (sa_cons (sd_var (pv 3)) sa_nil rfl) rfl rfl rfl)) rfl)) (fun _ => rfl))
    (sss_cons (ss_set N rfl (by first | exact Or.inl rfl | exact Or.inr rfl) (sd_al (se_lst sa_nil)) rfl (by first | exact Or.inl rfl | exact Or.inr rfl))
    (sss_cons (ss_for [5] (passes_of rfl) rfl (si_r1 (pi_range1 rfl bt.range (sa_cons (SD.of (se_fld (sd_var (pv 0)) rfl (C_Alphabet.at (i := 0) (by decide +kernel) rfl))) sa_nil rfl))) (sg_name (pg_name (i := 5) N rfl (by first | exact Or.inl rfl | exact Or.inr rfl))) (sss_one (ss_expr (SD.of (se_m (pe_bm PySem.F.plainAttrs_list PySem.F.slot_list_append PySem.F.type_list_append mt_append (sd_var (pv 4)) (sa_cons (SD.of (se_b (pe_callTy call_tuple_of rfl bt.tuple b_tuple (sa_cons (SD.of (se_lc (own := [(("letter" : Str), 3)]) rfl N (si_r1 (pi_range1 rfl bt.range (sa_cons (SD.of (se_b (pe_callB cr_len rfl bt.len b_len (sa_cons (SD.of (se_fld (sd_var (pv 0)) rfl (C_Alphabet.at (i := 1) (by decide +kernel) rfl))) sa_nil rfl)) lk_len)) sa_nil rfl))) (blkOk_by (by rfl)) (fun _ _ _ _ _ => by exact (sgw_name (pg_name (i := 3) N rfl (by first | exact Or.inl rfl | exact Or.inr rfl)) (by decide))) (fun _ _ _ _ _ => by exact sts_nil) (fun _ _ _ _ _ => by exact (SD.of (se_meth clN_ok (cn := 2) rfl C_Ledger.cl D_Ledger_known G_Ledger_known (hr.mono (by decide)) tk0 (sd_var (pv 2)) (sa_cons (sd_var (pv 5)) (sa_cons (sd_var (pv 3)) sa_nil rfl) rfl) rfl rfl rfl))) (fun _ => rfl))) sa_nil rfl)) lk_tuple)) sa_nil rfl)) lk_append)) rfl)) (fun _ => rfl))
    (sss_one (ss_ret (SE.of (sd_var (pv 4)))))))))
abbrev s__law_nested : Stmt := top 28
theorem sc__law_nested : FnScope ["letters", "word", "row", "place", "at"] ["letters", "word", "row"] (defScope s__law_nested) := ⟨rfl, rfl, rfl, by decide +kernel, rfl, by decide +kernel, by decide +kernel⟩
noncomputable def S__law_nested : ST := (sSeq (sFor (iSeq (eVar 2)) (tN 3) (sSet 1 (ed (eA fTuple (aCons (ed (eComp (iSeq (ed (eCall 3 B__law_view (aCons (eVar 0) (aCons (eVar 1) (aCons (eVar 3) aNil)))))) (tN 4) bYes (ed (e2 fIx (eVar 1) (eVar 4))) [4])) aNil)))) [3])
  (sRet (ev (eVar 1))))
noncomputable def B__law_nested : BD := body 5 S__law_nested
theorem ok__law_nested {f_ : Addr} {fd_ : FuncData} {f__law_view : Addr} {fd__law_view : FuncData} (F0 : Fun K "_law_nested" "_law_nested" s__law_nested f_ fd_) (bt : Bt mg) (D__law_view : Dg K mg "_law_view" "_law_view" s__law_view ["letters", "word", "place"] f__law_view fd__law_view) (G__law_view : FnOk P w K mg base (L2.CX P w) 2 f__law_view fd__law_view ["letters", "word", "place"] (spB ca 3 B__law_view)) :
    FnOk P w K mg base (L2.CX P w) 3 f_ fd_ ["letters", "word", "row"] (spB ca 3 B__law_nested) := by
  have N : (["letters", "word", "row", "place", "at"] : List Str).Nodup := sc__law_nested.nd
  refine def_ok F0 sc__law_nested fun cdv A outer s H E hr => ?_
  have hu65 : (cxOf (L2.CX P w) P w K mg base ["letters", "word", "row", "place", "at"] "_law_nested" (defScope s__law_nested) f_ cdv A outer s H E).A.units + 65 < cLine := by have := hr.un; show (A.deeper _).units + 65 < cLine; omega
  have hu64 : (cxOf (L2.CX P w) P w K mg base ["letters", "word", "row", "place", "at"] "_law_nested" (defScope s__law_nested) f_ cdv A outer s H E).A.units + 64 < cLine := by omega
  have hu1 : (cxOf (L2.CX P w) P w K mg base ["letters", "word", "row", "place", "at"] "_law_nested" (defScope s__law_nested) f_ cdv A outer s H E).A.units + 1 < cLine := by omega
  have tk : Takes (cxOf (L2.CX P w) P w K mg base ["letters", "word", "row", "place", "at"] "_law_nested" (defScope s__law_nested) f_ cdv A outer s H E) (fun cls d _ H' => E cls d H') := takes_of rfl rfl rfl rfl
  unfold S__law_nested
  exact (sss_cons (ss_for [3] (passes_of rfl) rfl (si_seq (sd_var (pv 2))) (sg_name (pg_name (i := 3) N rfl (by first | exact Or.inl rfl | exact Or.inr rfl))) (sss_one (ss_set N rfl (by first | exact Or.inl rfl | exact Or.inr rfl) (SD.of (se_b (pe_callTy call_tuple_of rfl bt.tuple b_tuple (sa_cons (SD.of (se_lc (own := [(("at" : Str), 4)]) rfl N (si_seq (SD.of (se_callN rfl G__law_view (hr.mono (by decide)) (by rfl) D__law_view.m D__law_view.F.kp D__law_view.b tk (sa_cons (sd_var (pv 0)) (sa_cons (sd_var (pv 1)) (sa_cons (sd_var (pv 3)) sa_nil rfl) rfl) rfl) (by decide) rfl rfl))) (blkOk_by (by rfl)) (fun _ _ _ _ _ => by exact (sgw_name (pg_name (i := 4) N rfl (by first | exact Or.inl rfl | exact Or.inr rfl)) (by decide))) (fun _ _ _ _ _ => by exact sts_nil) (fun _ _ _ _ _ => by exact (SD.of (se_ix hu1 (sd_var (pv 1)) (sd_var (pv 4)) (fun _ _ => rfl)))) (fun _ => rfl))) sa_nil rfl)) lk_tuple)) rfl (by first | exact Or.inl rfl | exact Or.inr rfl))) (fun _ => rfl))
    (sss_one (ss_ret (SE.of (sd_var (pv 1))))))
abbrev s__law_telling : Stmt := top 29
theorem sc__law_telling : FnScope ["places", "letters", "word", "event", "place", "level", "seen", "k", "longer", "more", "key", "other", "letter"] ["places", "letters", "word", "event", "place"] (defScope s__law_telling) := ⟨rfl, rfl, rfl, by decide +kernel, rfl, by decide +kernel, by decide +kernel⟩
noncomputable def S__law_telling : ST := (sSeq (sPar 5 6 (aCons (ed (eLst (aCons (eTup aNil) aNil))) (aCons (eAl eNewN) aNil)))
  (sSeq (sFor (iR1 (aCons (ed (e2 fAdd (eVar 0) (eC (.int 1)))) aNil)) (tN 7) (sSeq (sSet 8 (ed (eLst aNil)))
  (sSeq (sFor (iSeq (eVar 5)) (tN 9) (sSeq (sIf (eTB (e2 fInA (eVar 3) (ed (eCall 3 B__law_view (aCons (eVar 1) (aCons (ed (e2 fAdd (eVar 2) (eVar 9))) (aCons (eVar 4) aNil))))))) (sRet (ev (eVar 9))) sPass)
  (sSeq (sSet 10 (ed (eA fTuple (aCons (ed (eComp (iR1 (aCons (eVar 0) aNil)) (tN 11) bYes (ed (e2 fInA (eVar 3) (ed (eCall 3 B__law_view (aCons (eVar 1) (aCons (ed (e2 fAdd (eVar 2) (eVar 9))) (aCons (eVar 11) aNil))))))) [11])) aNil))))
  (sIf (eTB (e2 fNotInA (eVar 10) (eVar 6))) (sSeq (sPutA (eVar 6) (eVar 10) (eC (.bl true)))
  (sSet 8 (ed (e2 fAdd (eVar 8) (ed (eComp (iR1 (aCons (ed (eA fLen (aCons (eVar 1) aNil))) aNil)) (tN 12) bYes (ed (e2 fAdd (eVar 9) (eTup (aCons (eVar 12) aNil)))) [12])))))) sPass))) [9, 10])
  (sSet 5 (eVar 8)))) [7, 8, 9, 10])
  (sRet (ev (eC .non)))))
noncomputable def B__law_telling : BD := body 13 S__law_telling
theorem ok__law_telling {f_ : Addr} {fd_ : FuncData} {f__law_view : Addr} {fd__law_view : FuncData} (F0 : Fun K "_law_telling" "_law_telling" s__law_telling f_ fd_) (bt : Bt mg) (hP : ca.prog = P) (hw : ca.w = w) (D__law_view : Dg K mg "_law_view" "_law_view" s__law_view ["letters", "word", "place"] f__law_view fd__law_view) (G__law_view : FnOk P w K mg base (L2.CX P w) 2 f__law_view fd__law_view ["letters", "word", "place"] (spB ca 3 B__law_view)) :
    FnOk P w K mg base (L2.CX P w) 3 f_ fd_ ["places", "letters", "word", "event", "place"] (spB ca 5 B__law_telling) := by
  have N : (["places", "letters", "word", "event", "place", "level", "seen", "k", "longer", "more", "key", "other", "letter"] : List Str).Nodup := sc__law_telling.nd
  refine def_ok F0 sc__law_telling fun cdv A outer s H E hr => ?_
  have hu65 : (cxOf (L2.CX P w) P w K mg base ["places", "letters", "word", "event", "place", "level", "seen", "k", "longer", "more", "key", "other", "letter"] "_law_telling" (defScope s__law_telling) f_ cdv A outer s H E).A.units + 65 < cLine := by have := hr.un; show (A.deeper _).units + 65 < cLine; omega
  have hu64 : (cxOf (L2.CX P w) P w K mg base ["places", "letters", "word", "event", "place", "level", "seen", "k", "longer", "more", "key", "other", "letter"] "_law_telling" (defScope s__law_telling) f_ cdv A outer s H E).A.units + 64 < cLine := by omega
  have hu1 : (cxOf (L2.CX P w) P w K mg base ["places", "letters", "word", "event", "place", "level", "seen", "k", "longer", "more", "key", "other", "letter"] "_law_telling" (defScope s__law_telling) f_ cdv A outer s H E).A.units + 1 < cLine := by omega
  have hu9 : (cxOf (L2.CX P w) P w K mg base ["places", "letters", "word", "event", "place", "level", "seen", "k", "longer", "more", "key", "other", "letter"] "_law_telling" (defScope s__law_telling) f_ cdv A outer s H E).A.units + 9 < cLine := by omega
  have tk : Takes (cxOf (L2.CX P w) P w K mg base ["places", "letters", "word", "event", "place", "level", "seen", "k", "longer", "more", "key", "other", "letter"] "_law_telling" (defScope s__law_telling) f_ cdv A outer s H E) (fun cls d _ H' => E cls d H') := takes_of rfl rfl rfl rfl
  unfold S__law_telling
  exact (sss_cons (ss_par (i := 5) (j := 6) rfl N rfl rfl (by decide) rfl rfl (sa_cons (SD.of (se_lst (sa_cons (sd_tup sa_nil) sa_nil rfl))) (sa_cons (sd_al (se_newN hP hw)) sa_nil rfl) rfl) (by rfl) rfl)
    (sss_cons (ss_for [7, 8, 9, 10] (passes_of rfl) rfl (si_r1 (pi_range1 rfl bt.range (sa_cons (SD.of (se_op op_addA lk_add (sd_var (pv 0)) sd_int)) sa_nil rfl))) (sg_name (pg_name (i := 7) N rfl (by first | exact Or.inl rfl | exact Or.inr rfl))) (sss_cons (ss_set N rfl (by first | exact Or.inl rfl | exact Or.inr rfl) (SD.of (se_lst sa_nil)) rfl (by first | exact Or.inl rfl | exact Or.inr rfl))
    (sss_cons (ss_for [9, 10] (passes_of rfl) rfl (si_seq (sd_var (pv 5))) (sg_name (pg_name (i := 9) N rfl (by first | exact Or.inl rfl | exact Or.inr rfl))) (sss_cons (ss_if (sb_cmp (op_inA hu65) (lk_inA hP hw) (sd_var (pv 3)) (SD.of (se_callN rfl G__law_view (hr.mono (by decide)) (by rfl) D__law_view.m D__law_view.F.kp D__law_view.b tk (sa_cons (sd_var (pv 1)) (sa_cons (SD.of (se_op op_addA lk_add (sd_var (pv 2)) (sd_var (pv 9)))) (sa_cons (sd_var (pv 4)) sa_nil rfl) rfl) rfl) (by decide) rfl rfl)) rfl) (sss_one (ss_ret (SE.of (sd_var (pv 9))))) sss_nil)
    (sss_cons (ss_set N rfl (by first | exact Or.inl rfl | exact Or.inr rfl) (SD.of (se_b (pe_callTy call_tuple_of rfl bt.tuple b_tuple (sa_cons (SD.of (se_lc (own := [(("other" : Str), 11)]) rfl N (si_r1 (pi_range1 rfl bt.range (sa_cons (sd_var (pv 0)) sa_nil rfl))) (blkOk_by (by rfl)) (fun _ _ _ _ _ => by exact (sgw_name (pg_name (i := 11) N rfl (by first | exact Or.inl rfl | exact Or.inr rfl)) (by decide))) (fun _ _ _ _ _ => by exact sts_nil) (fun _ _ _ _ _ => by exact (SD.of (se_cmp (op_inA hu65) (lk_inA hP hw) (sd_var (pv 3)) (SD.of (se_callN rfl G__law_view (hr.mono (by decide)) (by rfl) D__law_view.m D__law_view.F.kp D__law_view.b tk0 (sa_cons (sd_var (pv 1)) (sa_cons (SD.of (se_op op_addA lk_add (sd_var (pv 2)) (sd_var (pv 9)))) (sa_cons (sd_var (pv 11)) sa_nil rfl) rfl) rfl) (by decide) rfl rfl)) rfl))) (fun _ => rfl))) sa_nil rfl)) lk_tuple)) rfl (by first | exact Or.inl rfl | exact Or.inr rfl))
    (sss_one (ss_if (sb_cmp (op_notInA hu65) (lk_notInA hP hw) (sd_var (pv 10)) (sd_var (pv 6)) rfl) (sss_cons (ss_putA hP hw hu9 (sd_var (pv 6)) (sd_var (pv 10)) sd_bl (fun _ => rfl) rfl rfl rfl)
    (sss_one (ss_set N rfl (by first | exact Or.inl rfl | exact Or.inr rfl) (SD.of (se_op op_addA lk_add (sd_var (pv 8)) (SD.of (se_lc (own := [(("letter" : Str), 12)]) rfl N (si_r1 (pi_range1 rfl bt.range (sa_cons (SD.of (se_b (pe_callB cr_len rfl bt.len b_len (sa_cons (sd_var (pv 1)) sa_nil rfl)) lk_len)) sa_nil rfl))) (blkOk_by (by rfl)) (fun _ _ _ _ _ => by exact (sgw_name (pg_name (i := 12) N rfl (by first | exact Or.inl rfl | exact Or.inr rfl)) (by decide))) (fun _ _ _ _ _ => by exact sts_nil) (fun _ _ _ _ _ => by exact (SD.of (se_op op_addA lk_add (sd_var (pv 9)) (sd_tup (sa_cons (sd_var (pv 12)) sa_nil rfl))))) (fun _ => rfl))))) rfl (by first | exact Or.inl rfl | exact Or.inr rfl)))) sss_nil)))) (fun _ => rfl))
    (sss_one (ss_set N rfl (by first | exact Or.inl rfl | exact Or.inr rfl) (sd_var (pv 8)) rfl (by first | exact Or.inl rfl | exact Or.inr rfl))))) (fun _ => rfl))
    (sss_one (ss_ret (SE.of sd_non)))))
abbrev s_nested_count : Stmt := top 14
theorem sc_nested_count : FnScope ["alphabet", "word", "places", "letter", "here", "place", "event", "other"] ["alphabet", "word", "places", "letter"] (defScope s_nested_count) := ⟨rfl, rfl, rfl, by decide +kernel, rfl, by decide +kernel, by decide +kernel⟩
noncomputable def S_nested_count : ST := (sSeq (sSet 4 (ed (eA fTuple (aCons (eVar 1) aNil))))
  (sSeq (sFor (iSeq (eVar 2)) (tN 5) (sSet 4 (ed (eA fTuple (aCons (ed (eComp (iSeq (ed (eCall 3 B_view (aCons (eVar 0) (aCons (eVar 4) (aCons (eVar 5) aNil)))))) (tN 6) bYes (ed (e2 fIx (eVar 4) (eVar 6))) [6])) aNil)))) [5])
  (sRet (eA fLen (aCons (ed (eComp (iSeq (eVar 4)) (tN 7) (eTB (e2 fEq (eVar 7) (eVar 3))) (eC (.int 1)) [7])) aNil)))))
noncomputable def B_nested_count : BD := body 8 S_nested_count
theorem ok_nested_count {f_ : Addr} {fd_ : FuncData} {f_view : Addr} {fd_view : FuncData} (F0 : Fun K "nested_count" "nested_count" s_nested_count f_ fd_) (bt : Bt mg) (D_view : Dg K mg "view" "view" s_view ["alphabet", "word", "place"] f_view fd_view) (G_view : FnOk P w K mg base (L2.CX P w) 3 f_view fd_view ["alphabet", "word", "place"] (spB ca 3 B_view)) :
    FnOk P w K mg base (L2.CX P w) 4 f_ fd_ ["alphabet", "word", "places", "letter"] (spB ca 4 B_nested_count) := by
  have N : (["alphabet", "word", "places", "letter", "here", "place", "event", "other"] : List Str).Nodup := sc_nested_count.nd
  refine def_ok F0 sc_nested_count fun cdv A outer s H E hr => ?_
  have hu65 : (cxOf (L2.CX P w) P w K mg base ["alphabet", "word", "places", "letter", "here", "place", "event", "other"] "nested_count" (defScope s_nested_count) f_ cdv A outer s H E).A.units + 65 < cLine := by have := hr.un; show (A.deeper _).units + 65 < cLine; omega
  have hu64 : (cxOf (L2.CX P w) P w K mg base ["alphabet", "word", "places", "letter", "here", "place", "event", "other"] "nested_count" (defScope s_nested_count) f_ cdv A outer s H E).A.units + 64 < cLine := by omega
  have hu1 : (cxOf (L2.CX P w) P w K mg base ["alphabet", "word", "places", "letter", "here", "place", "event", "other"] "nested_count" (defScope s_nested_count) f_ cdv A outer s H E).A.units + 1 < cLine := by omega
  have tk : Takes (cxOf (L2.CX P w) P w K mg base ["alphabet", "word", "places", "letter", "here", "place", "event", "other"] "nested_count" (defScope s_nested_count) f_ cdv A outer s H E) (fun cls d _ H' => E cls d H') := takes_of rfl rfl rfl rfl
  unfold S_nested_count
  exact (sss_cons (ss_set N rfl (by first | exact Or.inl rfl | exact Or.inr rfl) (SD.of (se_b (pe_callTy call_tuple_of rfl bt.tuple b_tuple (sa_cons (sd_var (pv 1)) sa_nil rfl)) lk_tuple)) rfl (by first | exact Or.inl rfl | exact Or.inr rfl))
    (sss_cons (ss_for [5] (passes_of rfl) rfl (si_seq (sd_var (pv 2))) (sg_name (pg_name (i := 5) N rfl (by first | exact Or.inl rfl | exact Or.inr rfl))) (sss_one (ss_set N rfl (by first | exact Or.inl rfl | exact Or.inr rfl) (SD.of (se_b (pe_callTy call_tuple_of rfl bt.tuple b_tuple (sa_cons (SD.of (se_lc (own := [(("event" : Str), 6)]) rfl N (si_seq (SD.of (se_callN rfl G_view (hr.mono (by decide)) (by rfl) D_view.m D_view.F.kp D_view.b tk (sa_cons (sd_var (pv 0)) (sa_cons (sd_var (pv 4)) (sa_cons (sd_var (pv 5)) sa_nil rfl) rfl) rfl) (by decide) rfl rfl))) (blkOk_by (by rfl)) (fun _ _ _ _ _ => by exact (sgw_name (pg_name (i := 6) N rfl (by first | exact Or.inl rfl | exact Or.inr rfl)) (by decide))) (fun _ _ _ _ _ => by exact sts_nil) (fun _ _ _ _ _ => by exact (SD.of (se_ix hu1 (sd_var (pv 4)) (sd_var (pv 6)) (fun _ _ => rfl)))) (fun _ => rfl))) sa_nil rfl)) lk_tuple)) rfl (by first | exact Or.inl rfl | exact Or.inr rfl))) (fun _ => rfl))
    (sss_one (ss_ret (se_b (pe_callB cr_len rfl bt.len b_len (sa_cons (SD.of (se_lc (own := [(("other" : Str), 7)]) rfl N (si_seq (sd_var (pv 4))) (blkOk_by (by rfl)) (fun _ _ _ _ _ => by exact (sgw_name (pg_name (i := 7) N rfl (by first | exact Or.inl rfl | exact Or.inr rfl)) (by decide))) (fun _ _ _ _ _ => by exact (sts_one (sb_cmp (op_eqD hu64) lk_eq (sd_var (pv 7)) (sd_var (pv 3)) (nomark _)))) (fun _ _ _ _ _ => by exact sd_int) (fun _ => rfl))) sa_nil rfl)) lk_len)))))
abbrev s_telling : Stmt := top 17
theorem sc_telling : FnScope ["alphabet", "word", "event", "place", "knowing", "other", "ways", "waiting", "here", "letter", "there", "after"] ["alphabet", "word", "event", "place"] (defScope s_telling) := ⟨rfl, rfl, rfl, by decide +kernel, rfl, by decide +kernel, by decide +kernel⟩
noncomputable def S_telling : ST := (sSeq (sSet 4 (ed (eA fTuple (aCons (ed (eComp (iR1 (aCons (ed (e1 (fFld [0] 0) (eVar 0))) aNil)) (tN 5) (eTB (e2 fIn (eVar 2) (ed (eCall 3 B_view (aCons (eVar 0) (aCons (eVar 1) (aCons (eVar 5) aNil))))))) (eVar 5) [5])) aNil))))
  (sSeq (sSet 6 (eAl (eDisp1 (eVar 4) (eTup aNil))))
  (sSeq (sSet 7 (eAl (eLst (aCons (eVar 4) aNil))))
  (sSeq (sWh (eT (eVar 7)) (sSeq (sSet 8 (ed (eM "list" fPopAt (eVar 7) (aCons (eC (.int 0)) aNil))))
  (sSeq (sIf (eTB (e2 fIn (eVar 3) (eVar 8))) (sRet (e2 fIx (eVar 6) (eVar 8))) sPass)
  (sFor (iEnA (aCons (ed (e1 (fFld [0] 1) (eVar 0))) aNil)) (tTup (tCons (tN 9) (tCons (tN 10) tNil))) (sSeq (sSet 11 (eVar 8))
  (sSeq (sIf (eT (ed (eA fAny (aCons (ed (eComp (iSeq (eVar 10)) (tN 5) bYes (ed (e2 fIn (eVar 5) (eVar 8))) [5])) aNil)))) (sSet 11 (ed (eA fTuple (aCons (ed (eA fSSet (aCons (ed (e2 fAdd (eVar 8) (eVar 10))) aNil))) aNil)))) sPass)
  (sIf (eTB (e2 fNotIn (eVar 11) (eVar 6))) (sSeq (sPut (eVar 6) (eVar 11) (ed (e2 fAdd (ed (e2 fIx (eVar 6) (eVar 8))) (eTup (aCons (eVar 9) aNil)))))
  (sX (ed (eM "list" fAppend (eVar 7) (aCons (eVar 11) aNil))))) sPass))) [9, 10, 11]))) [8, 9, 10, 11])
  (sRet (ev (eC .non)))))))
noncomputable def B_telling : BD := body 12 S_telling
theorem ok_telling {f_ : Addr} {fd_ : FuncData} {f_view : Addr} {fd_view : FuncData} (F0 : Fun K "telling" "telling" s_telling f_ fd_) (bt : Bt mg) (C_Alphabet : ClF ca K 0 ["places", "letters"]) (D_view : Dg K mg "view" "view" s_view ["alphabet", "word", "place"] f_view fd_view) (G_view : FnOk P w K mg base (L2.CX P w) 3 f_view fd_view ["alphabet", "word", "place"] (spB ca 3 B_view)) :
    FnOk P w K mg base (L2.CX P w) 4 f_ fd_ ["alphabet", "word", "event", "place"] (spB ca 4 B_telling) := by
  have N : (["alphabet", "word", "event", "place", "knowing", "other", "ways", "waiting", "here", "letter", "there", "after"] : List Str).Nodup := sc_telling.nd
  refine def_ok F0 sc_telling fun cdv A outer s H E hr => ?_
  have hu65 : (cxOf (L2.CX P w) P w K mg base ["alphabet", "word", "event", "place", "knowing", "other", "ways", "waiting", "here", "letter", "there", "after"] "telling" (defScope s_telling) f_ cdv A outer s H E).A.units + 65 < cLine := by have := hr.un; show (A.deeper _).units + 65 < cLine; omega
  have hu64 : (cxOf (L2.CX P w) P w K mg base ["alphabet", "word", "event", "place", "knowing", "other", "ways", "waiting", "here", "letter", "there", "after"] "telling" (defScope s_telling) f_ cdv A outer s H E).A.units + 64 < cLine := by omega
  have hu1 : (cxOf (L2.CX P w) P w K mg base ["alphabet", "word", "event", "place", "knowing", "other", "ways", "waiting", "here", "letter", "there", "after"] "telling" (defScope s_telling) f_ cdv A outer s H E).A.units + 1 < cLine := by omega
  have tk : Takes (cxOf (L2.CX P w) P w K mg base ["alphabet", "word", "event", "place", "knowing", "other", "ways", "waiting", "here", "letter", "there", "after"] "telling" (defScope s_telling) f_ cdv A outer s H E) (fun cls d _ H' => E cls d H') := takes_of rfl rfl rfl rfl
  unfold S_telling
  exact (sss_cons (ss_set N rfl (by first | exact Or.inl rfl | exact Or.inr rfl) (SD.of (se_b (pe_callTy call_tuple_of rfl bt.tuple b_tuple (sa_cons (SD.of (se_lc (own := [(("other" : Str), 5)]) rfl N (si_r1 (pi_range1 rfl bt.range (sa_cons (SD.of (se_fld (sd_var (pv 0)) rfl (C_Alphabet.at (i := 0) (by decide +kernel) rfl))) sa_nil rfl))) (blkOk_by (by rfl)) (fun _ _ _ _ _ => by exact (sgw_name (pg_name (i := 5) N rfl (by first | exact Or.inl rfl | exact Or.inr rfl)) (by decide))) (fun _ _ _ _ _ => by exact (sts_one (sb_cmp (op_in hu65) lk_in (sd_var (pv 2)) (SD.of (se_callN rfl G_view (hr.mono (by decide)) (by rfl) D_view.m D_view.F.kp D_view.b tk0 (sa_cons (sd_var (pv 0)) (sa_cons (sd_var (pv 1)) (sa_cons (sd_var (pv 5)) sa_nil rfl) rfl) rfl) (by decide) rfl rfl)) rfl))) (fun _ _ _ _ _ => by exact (sd_var (pv 5))) (fun _ => rfl))) sa_nil rfl)) lk_tuple)) rfl (by first | exact Or.inl rfl | exact Or.inr rfl))
    (sss_cons (ss_set N rfl (by first | exact Or.inl rfl | exact Or.inr rfl) (sd_al (se_disp1 hu1 (sd_var (pv 4)) (sd_tup sa_nil))) rfl (by first | exact Or.inl rfl | exact Or.inr rfl))
    (sss_cons (ss_set N rfl (by first | exact Or.inl rfl | exact Or.inr rfl) (sd_al (se_lst (sa_cons (sd_var (pv 4)) sa_nil rfl))) rfl (by first | exact Or.inl rfl | exact Or.inr rfl))
    (sss_cons (ss_while [8, 9, 10, 11] (passes_of rfl) (sb_t (sd_var (pv 7)) (fun _ => rfl)) (sss_cons (ss_set N rfl (by first | exact Or.inl rfl | exact Or.inr rfl) (SD.of (se_m (pe_bm PySem.F.plainAttrs_list PySem.F.slot_list_pop PySem.F.type_list_pop mt_popAt (sd_var (pv 7)) (sa_cons sd_int sa_nil rfl)) lk_popAt)) rfl (by first | exact Or.inl rfl | exact Or.inr rfl))
    (sss_cons (ss_if (sb_cmp (op_in hu65) lk_in (sd_var (pv 3)) (sd_var (pv 8)) rfl) (sss_one (ss_ret (se_ix hu1 (sd_var (pv 6)) (sd_var (pv 8)) (fun _ _ => rfl)))) sss_nil)
    (sss_one (ss_for [9, 10, 11] (passes_of rfl) rfl (si_enA (pi_enumA rfl bt.enumerate (sa_cons (SD.of (se_fld (sd_var (pv 0)) rfl (C_Alphabet.at (i := 1) (by decide +kernel) rfl))) sa_nil rfl))) (sg_tup rfl (sgs_cons (sg_name (pg_name (i := 9) N rfl (by first | exact Or.inl rfl | exact Or.inr rfl))) (sgs_cons (sg_name (pg_name (i := 10) N rfl (by first | exact Or.inl rfl | exact Or.inr rfl))) sgs_nil rfl) rfl) (len_cons (len_cons len_nil)) rfl rfl) (sss_cons (ss_set N rfl (by first | exact Or.inl rfl | exact Or.inr rfl) (sd_var (pv 8)) rfl (by first | exact Or.inl rfl | exact Or.inr rfl))
    (sss_cons (ss_if (sb_t (SD.of (se_b (pe_callB (cr_any rfl) rfl bt.any b_any (sa_cons (SD.of (se_lc (own := [(("other" : Str), 5)]) rfl N (si_seq (sd_var (pv 10))) (blkOk_by (by rfl)) (fun _ _ _ _ _ => by exact (sgw_name (pg_name (i := 5) N rfl (by first | exact Or.inl rfl | exact Or.inr rfl)) (by decide))) (fun _ _ _ _ _ => by exact sts_nil) (fun _ _ _ _ _ => by exact (SD.of (se_cmp (op_in hu65) lk_in (sd_var (pv 5)) (sd_var (pv 8)) rfl))) (fun _ => rfl))) sa_nil rfl)) lk_any)) (fun _ => rfl)) (sss_one (ss_set N rfl (by first | exact Or.inl rfl | exact Or.inr rfl) (SD.of (se_b (pe_callTy call_tuple_of rfl bt.tuple b_tuple (sa_cons (SD.of (se_sset rfl rfl bt.sorted b_sorted rfl bt.set b_set (sa_cons (SD.of (se_op op_addA lk_add (sd_var (pv 8)) (sd_var (pv 10)))) sa_nil rfl) rfl rfl rfl rfl)) sa_nil rfl)) lk_tuple)) rfl (by first | exact Or.inl rfl | exact Or.inr rfl))) sss_nil)
    (sss_one (ss_if (sb_cmp (op_notIn hu65) lk_notIn (sd_var (pv 11)) (sd_var (pv 6)) rfl) (sss_cons (ss_put hu1 (sd_var (pv 6)) (sd_var (pv 11)) (SD.of (se_op op_addA lk_add (SD.of (se_ix hu1 (sd_var (pv 6)) (sd_var (pv 8)) (fun _ _ => rfl))) (sd_tup (sa_cons (sd_var (pv 9)) sa_nil rfl)))) (fun _ => rfl) rfl rfl rfl)
    (sss_one (ss_expr (SD.of (se_m (pe_bm PySem.F.plainAttrs_list PySem.F.slot_list_append PySem.F.type_list_append mt_append (sd_var (pv 7)) (sa_cons (sd_var (pv 11)) sa_nil rfl)) lk_append)) rfl))) sss_nil)))) (fun _ => rfl))))))
    (sss_one (ss_ret (SE.of sd_non)))))))
abbrev s__law_same : Stmt := top 24
theorem sc__law_same : FnScope ["found", "due", "k"] ["found", "due"] (defScope s__law_same) := ⟨rfl, rfl, rfl, by decide +kernel, rfl, by decide +kernel, by decide +kernel⟩
noncomputable def S__law_same (R_ : BD) : ST := (sSeq (sIf (eTB (e1 (fIsN false) (eVar 1))) (sRet (e1 (fIsN false) (eVar 0))) sPass)
  (sSeq (sIf (eT (eIsI "bool" (eVar 1))) (sRet (ev (vAnd (eIsI "bool" (eVar 0)) (ed (e2 fEq (eVar 0) (eVar 1)))))) sPass)
  (sSeq (sIf (eT (eIsI "int" (eVar 1))) (sRet (ev (vAnd (eIsI "int" (eVar 0)) (vAnd (ed (e1 fNotB (eIsI "bool" (eVar 0)))) (ed (e2 fEq (eVar 0) (eVar 1))))))) sPass)
  (sSeq (sIf (eT (eIsI "str" (eVar 1))) (sRet (ev (vAnd (eIsI "str" (eVar 0)) (ed (e2 fEq (eVar 0) (eVar 1)))))) sPass)
  (sSeq (sIf (eT (eIsI "dict" (eVar 1))) (sRet (ev (vAnd (eIsI "dict" (eVar 0)) (ed (e2 fEq (eVar 0) (eVar 1)))))) sPass)
  (sSeq (sIf (bOr (eTB (e2 fNe (eIsI "tuple" (eVar 1)) (eIsI "tuple" (eVar 0)))) (eTB (e2 fNe (eIsI "list" (eVar 1)) (eIsI "list" (eVar 0))))) (sRet (ev (eC (.bl false)))) sPass)
  (sRet (ev (vAnd (ed (e2 fEq (ed (eA fLen (aCons (eVar 0) aNil))) (ed (eA fLen (aCons (eVar 1) aNil))))) (ed (eA fAll (aCons (ed (eComp (iR1 (aCons (ed (eA fLen (aCons (eVar 1) aNil))) aNil)) (tN 2) bYes (ed (eCall 2 R_ (aCons (ed (e2 fIx (eVar 0) (eVar 2))) (aCons (ed (e2 fIx (eVar 1) (eVar 2))) aNil)))) [2])) aNil))))))))))))
noncomputable def B__law_same : Nat → BD
  | 0 => fun _ _ _ => .stuck
  | k + 1 => body 3 (S__law_same (B__law_same k))
theorem ok__law_same {f_ : Addr} {fd_ : FuncData} (D0 : Df K mg "_law_same" s__law_same ["found", "due"] f_ fd_) (bt : Bt mg) :
    ∀ k : Nat, FnOk P w K mg base (L2.CX P w) (k + 1) f_ fd_ ["found", "due"] (spB ca 2 (B__law_same k))
  | 0 => stuck_ok
  | k + 1 => by
    have G__law_same := ok__law_same D0 bt k
    have D__law_same := D0.dg
    have N : (["found", "due", "k"] : List Str).Nodup := sc__law_same.nd
    refine def_ok D0.F sc__law_same fun cdv A outer s H E hr => ?_
    have hu65 : (cxOf (L2.CX P w) P w K mg base ["found", "due", "k"] "_law_same" (defScope s__law_same) f_ cdv A outer s H E).A.units + 65 < cLine := by have := hr.un; show (A.deeper _).units + 65 < cLine; omega
    have hu64 : (cxOf (L2.CX P w) P w K mg base ["found", "due", "k"] "_law_same" (defScope s__law_same) f_ cdv A outer s H E).A.units + 64 < cLine := by omega
    have hu1 : (cxOf (L2.CX P w) P w K mg base ["found", "due", "k"] "_law_same" (defScope s__law_same) f_ cdv A outer s H E).A.units + 1 < cLine := by omega
    have tk : Takes (cxOf (L2.CX P w) P w K mg base ["found", "due", "k"] "_law_same" (defScope s__law_same) f_ cdv A outer s H E) (fun cls d _ H' => E cls d H') := takes_of rfl rfl rfl rfl
    unfold S__law_same
    exact (sss_cons (ss_if (sb_isN (sd_var (pv 1))) (sss_one (ss_ret (se_isN (sd_var (pv 0))))) sss_nil)
    (sss_cons (ss_if (sb_t (sd_isi (pe_callB call_isi rfl bt.isinstance b_isinstance (pa_cons (sd_var (pv 1)) (pa_cons (pe_bltn rfl bt.bool b_bool rfl) pa_nil)))) (fun _ => rfl)) (sss_one (ss_ret (SE.of (sd_and (sd_isi (pe_callB call_isi rfl bt.isinstance b_isinstance (pa_cons (sd_var (pv 0)) (pa_cons (pe_bltn rfl bt.bool b_bool rfl) pa_nil)))) (sd_one (SD.of (se_cmp (op_eqD hu64) lk_eq (sd_var (pv 0)) (sd_var (pv 1)) (nomark _)))))))) sss_nil)
    (sss_cons (ss_if (sb_t (sd_isi (pe_callB call_isi rfl bt.isinstance b_isinstance (pa_cons (sd_var (pv 1)) (pa_cons (pe_bltn rfl bt.int b_int rfl) pa_nil)))) (fun _ => rfl)) (sss_one (ss_ret (SE.of (sd_and (sd_isi (pe_callB call_isi rfl bt.isinstance b_isinstance (pa_cons (sd_var (pv 0)) (pa_cons (pe_bltn rfl bt.int b_int rfl) pa_nil)))) (sd_and (SD.of (se_not (sd_isi (pe_callB call_isi rfl bt.isinstance b_isinstance (pa_cons (sd_var (pv 0)) (pa_cons (pe_bltn rfl bt.bool b_bool rfl) pa_nil)))))) (sd_one (SD.of (se_cmp (op_eqD hu64) lk_eq (sd_var (pv 0)) (sd_var (pv 1)) (nomark _))))))))) sss_nil)
    (sss_cons (ss_if (sb_t (sd_isi (pe_callB call_isi rfl bt.isinstance b_isinstance (pa_cons (sd_var (pv 1)) (pa_cons (pe_bltn rfl bt.str b_str rfl) pa_nil)))) (fun _ => rfl)) (sss_one (ss_ret (SE.of (sd_and (sd_isi (pe_callB call_isi rfl bt.isinstance b_isinstance (pa_cons (sd_var (pv 0)) (pa_cons (pe_bltn rfl bt.str b_str rfl) pa_nil)))) (sd_one (SD.of (se_cmp (op_eqD hu64) lk_eq (sd_var (pv 0)) (sd_var (pv 1)) (nomark _)))))))) sss_nil)
    (sss_cons (ss_if (sb_t (sd_isi (pe_callB call_isi rfl bt.isinstance b_isinstance (pa_cons (sd_var (pv 1)) (pa_cons (pe_bltn rfl bt.dict b_dict rfl) pa_nil)))) (fun _ => rfl)) (sss_one (ss_ret (SE.of (sd_and (sd_isi (pe_callB call_isi rfl bt.isinstance b_isinstance (pa_cons (sd_var (pv 0)) (pa_cons (pe_bltn rfl bt.dict b_dict rfl) pa_nil)))) (sd_one (SD.of (se_cmp (op_eqD hu64) lk_eq (sd_var (pv 0)) (sd_var (pv 1)) (nomark _)))))))) sss_nil)
    (sss_cons (ss_if (sb_w (sw_or (sb_cmp (op_neD hu64) lk_ne (sd_isi (pe_callB call_isi rfl bt.isinstance b_isinstance (pa_cons (sd_var (pv 1)) (pa_cons (pe_bltn rfl bt.tuple b_tuple rfl) pa_nil)))) (sd_isi (pe_callB call_isi rfl bt.isinstance b_isinstance (pa_cons (sd_var (pv 0)) (pa_cons (pe_bltn rfl bt.tuple b_tuple rfl) pa_nil)))) (nomark _)) (sw_or1 (sb_cmp (op_neD hu64) lk_ne (sd_isi (pe_callB call_isi rfl bt.isinstance b_isinstance (pa_cons (sd_var (pv 1)) (pa_cons (pe_bltn rfl bt.list b_list rfl) pa_nil)))) (sd_isi (pe_callB call_isi rfl bt.isinstance b_isinstance (pa_cons (sd_var (pv 0)) (pa_cons (pe_bltn rfl bt.list b_list rfl) pa_nil)))) (nomark _))))) (sss_one (ss_ret (SE.of sd_bl))) sss_nil)
    (sss_one (ss_ret (SE.of (sd_and (SD.of (se_cmp (op_eqD hu64) lk_eq (SD.of (se_b (pe_callB cr_len rfl bt.len b_len (sa_cons (sd_var (pv 0)) sa_nil rfl)) lk_len)) (SD.of (se_b (pe_callB cr_len rfl bt.len b_len (sa_cons (sd_var (pv 1)) sa_nil rfl)) lk_len)) (nomark _))) (sd_one (SD.of (se_b (pe_callB (cr_all rfl) rfl bt.all b_all (sa_cons (SD.of (se_lc (own := [(("k" : Str), 2)]) rfl N (si_r1 (pi_range1 rfl bt.range (sa_cons (SD.of (se_b (pe_callB cr_len rfl bt.len b_len (sa_cons (sd_var (pv 1)) sa_nil rfl)) lk_len)) sa_nil rfl))) (blkOk_by (by rfl)) (fun _ _ _ _ _ => by exact (sgw_name (pg_name (i := 2) N rfl (by first | exact Or.inl rfl | exact Or.inr rfl)) (by decide))) (fun _ _ _ _ _ => by exact sts_nil) (fun _ _ _ _ _ => by exact (SD.of (se_callN rfl G__law_same hr (by rfl) D__law_same.m D__law_same.F.kp D__law_same.b tk0 (sa_cons (SD.of (se_ix hu1 (sd_var (pv 0)) (sd_var (pv 2)) (fun _ _ => rfl))) (sa_cons (SD.of (se_ix hu1 (sd_var (pv 1)) (sd_var (pv 2)) (fun _ _ => rfl))) sa_nil rfl) rfl) (by decide) rfl rfl))) (fun _ => rfl))) sa_nil rfl)) lk_all)))))))))))))
abbrev s_law : Stmt := top 30
theorem sc_law : FnScope ["script", "draws", "turn", "alphabet", "k", "table", "p", "row", "letter", "places", "letters", "word", "matrix", "q", "there", "due", "event", "place", "other"] ["script"] (defScope s_law) := ⟨rfl, rfl, rfl, by decide +kernel, rfl, by decide +kernel, by decide +kernel⟩
noncomputable def S_law : ST := (sSeq (sSet 1 (eAl (eCall 2 B__law_draws (aCons (eVar 0) (aCons (eC (.int 300)) aNil)))))
  (sSeq (sFor (iR1 (aCons (eC (.int 2)) aNil)) (tN 2) (sSeq (sA (ed (eCall 3 B__law_alphabet (aCons (eVar 1) (aCons (eC (.int 4)) (aCons (eC (.int 6)) aNil))))) (tTup (tCons (tN 9) (tCons (tN 10) tNil))))
  (sSeq (sIf (eTB (e2 fEq (ed (eCall 2 B__law_take (aCons (eVar 1) (aCons (eC (.int 3)) aNil)))) (eC (.int 0)))) (sA (eTup (aCons (eC (.int 4)) (aCons (ed (eComp (iR1 (aCons (ed (e2 fAdd (eC (.int 3)) (ed (eCall 2 B__law_take (aCons (eVar 1) (aCons (eC (.int 3)) aNil)))))) aNil)) (tN 4) bYes (ed (e2 fIx (eTup (aCons (eTup (aCons (eC (.int 0)) (aCons (eC (.int 1)) aNil))) (aCons (eTup (aCons (eC (.int 1)) (aCons (eC (.int 2)) aNil))) (aCons (eTup (aCons (eC (.int 2)) (aCons (eC (.int 3)) aNil))) (aCons (eTup (aCons (eC (.int 3)) aNil)) (aCons (eTup (aCons (eC (.int 0)) aNil)) aNil)))))) (ed (e2 fSub (ed (e2 fAdd (ed (e2 fMulA (eVar 4) (eC (.int 2)))) (eVar 2))) (ed (e2 fMulA (eC (.int 5)) (ed (e2 fDiv (ed (e2 fAdd (ed (e2 fMulA (eVar 4) (eC (.int 2)))) (eVar 2))) (eC (.int 5)))))))))) [4])) aNil))) (tTup (tCons (tN 9) (tCons (tN 10) tNil)))) sPass)
  (sSeq (sSet 3 (ed (eMk 0 3 B_Alphabet___init__ (aCons (eVar 9) (aCons (eVar 10) aNil)))))
  (sSeq (sPar 11 12 (aCons (eTup aNil) (aCons (ed (eMkK 1 2 B_Matrix___init__ (aCons (eVar 3) aNil))) aNil)))
  (sSeq (sFor (iR1 (aCons (ed (eCall 2 B__law_take (aCons (eVar 1) (aCons (eC (.int 15)) aNil)))) aNil)) (tN 4) (sSeq (sSet 8 (ed (eCall 2 B__law_take (aCons (eVar 1) (aCons (ed (eA fLen (aCons (eVar 10) aNil))) aNil)))))
  (sSeq (sSet 11 (ed (e2 fAdd (eVar 11) (eTup (aCons (eVar 8) aNil)))))
  (sIf (bNot (eT (ed (eCall 2 (B__law_same 8) (aCons (ed (eMeth clN 1 2 B_Matrix_happen (eVar 12) (aCons (eVar 8) aNil))) (aCons (eC .non) aNil)))))) (sRet (ev (eC (.bl false)))) sPass))) [8])
  (sSeq (sSet 5 (ed (eCall 2 B_gathered (aCons (eVar 3) (aCons (eVar 11) aNil)))))
  (sSeq (sFor (iR1 (aCons (eVar 9) aNil)) (tN 6) (sFor (iR1 (aCons (eVar 9) aNil)) (tN 13) (sSeq (sSet 14 (ed (eCall 3 B__law_nested (aCons (eVar 10) (aCons (eVar 11) (aCons (eTup (aCons (eVar 6) (aCons (eVar 13) aNil))) aNil))))))
  (sFor (iR1 (aCons (ed (eA fLen (aCons (eVar 10) aNil))) aNil)) (tN 8) (sSeq (sSet 15 (ed (eA fLen (aCons (ed (eComp (iSeq (eVar 14)) (tN 18) (eTB (e2 fEq (eVar 18) (eVar 8))) (eC (.int 1)) [18])) aNil))))
  (sSeq (sIf (bOr (bNot (eT (ed (eCall 2 (B__law_same 8) (aCons (ed (eMeth clN 1 4 B_Matrix_known (eVar 12) (aCons (eVar 6) (aCons (eVar 13) (aCons (eVar 8) aNil))))) (aCons (eVar 15) aNil)))))) (bNot (eT (ed (eCall 2 (B__law_same 8) (aCons (ed (eCall 4 B_nested_count (aCons (eVar 3) (aCons (eVar 11) (aCons (eTup (aCons (eVar 6) (aCons (eVar 13) aNil))) (aCons (eVar 8) aNil)))))) (aCons (eVar 15) aNil))))))) (sRet (ev (eC (.bl false)))) sPass)
  (sIf (bAnd (eTB (e2 fEq (eVar 6) (eVar 13))) (eTB (e2 fNe (ed (e2 fIx (ed (e2 fIx (eVar 5) (eVar 6))) (eVar 8))) (eVar 15)))) (sRet (ev (eC (.bl false)))) sPass))) [8, 15])) [8, 13, 14, 15]) [6, 8, 13, 14, 15])
  (sSeq (sSet 7 (ed (eA fTuple (aCons (ed (eComp (iR1 (aCons (ed (e2 fAdd (eC (.int 1)) (ed (eCall 2 B__law_take (aCons (eVar 1) (aCons (eC (.int 4)) aNil)))))) aNil)) (tN 4) bYes (ed (eCall 2 B__law_take (aCons (eVar 1) (aCons (eVar 9) aNil)))) [4])) aNil))))
  (sSeq (sSet 8 (ed (eCall 2 B__law_take (aCons (eVar 1) (aCons (ed (eA fLen (aCons (eVar 10) aNil))) aNil)))))
  (sSeq (sIf (bNot (eT (ed (eCall 2 (B__law_same 8) (aCons (ed (eCall 4 B_nested_count (aCons (eVar 3) (aCons (eVar 11) (aCons (eVar 7) (aCons (eVar 8) aNil)))))) (aCons (ed (eA fLen (aCons (ed (eComp (iSeq (ed (eCall 3 B__law_nested (aCons (eVar 10) (aCons (eVar 11) (aCons (eVar 7) aNil)))))) (tN 18) (eTB (e2 fEq (eVar 18) (eVar 8))) (eC (.int 1)) [18])) aNil))) aNil)))))) (sRet (ev (eC (.bl false)))) sPass)
  (sFor (iR1 (aCons (eC (.int 2)) aNil)) (tN 4) (sIf (eTB (e2 fGt (ed (eA fLen (aCons (eVar 11) aNil))) (eC (.int 0)))) (sSeq (sPar 16 17 (aCons (ed (eCall 2 B__law_take (aCons (eVar 1) (aCons (ed (eA fLen (aCons (eVar 11) aNil))) aNil)))) (aCons (ed (eCall 2 B__law_take (aCons (eVar 1) (aCons (eVar 9) aNil)))) aNil)))
  (sIf (bNot (eT (ed (eCall 2 (B__law_same 8) (aCons (ed (eCall 4 B_telling (aCons (eVar 3) (aCons (eVar 11) (aCons (eVar 16) (aCons (eVar 17) aNil)))))) (aCons (ed (eCall 5 B__law_telling (aCons (eVar 9) (aCons (eVar 10) (aCons (eVar 11) (aCons (eVar 16) (aCons (eVar 17) aNil))))))) aNil)))))) (sRet (ev (eC (.bl false)))) sPass)) sPass) [16, 17]))))))))))) [2, 3, 5, 6, 7, 8, 9, 10, 11, 12, 13, 14, 15, 16, 17])
  (sRet (ev (eC (.bl true))))))
noncomputable def B_law : BD := body 19 S_law
theorem ok_law {f_ : Addr} {fd_ : FuncData} {f_Matrix_happen : Addr} {fd_Matrix_happen : FuncData} {f_Matrix_known : Addr} {fd_Matrix_known : FuncData} {f__law_draws : Addr} {fd__law_draws : FuncData} {f__law_alphabet : Addr} {fd__law_alphabet : FuncData} {f__law_take : Addr} {fd__law_take : FuncData} {f__law_same : Addr} {fd__law_same : FuncData} {f_gathered : Addr} {fd_gathered : FuncData} {f__law_nested : Addr} {fd__law_nested : FuncData} {f_nested_count : Addr} {fd_nested_count : FuncData} {f_telling : Addr} {fd_telling : FuncData} {f__law_telling : Addr} {fd__law_telling : FuncData} {f_Alphabet C_Alphabet_ : Addr} {fd_Alphabet : FuncData} {f_Matrix C_Matrix_ : Addr} {fd_Matrix : FuncData} (F0 : Fun K "law" "law" s_law f_ fd_) (bt : Bt mg) (C_Matrix : ClF ca K 1 ["alphabet", "_rows"]) (D_Matrix_happen : MtF K ca 1 "happen" s_Matrix_happen ["self", "letter"] f_Matrix_happen fd_Matrix_happen) (G_Matrix_happen : FnOk P w K mg base (L2.CX P w) 2 f_Matrix_happen fd_Matrix_happen ["self", "letter"] (spB ca 2 B_Matrix_happen)) (D_Matrix_known : MtF K ca 1 "known" s_Matrix_known ["self", "p", "q", "letter"] f_Matrix_known fd_Matrix_known) (G_Matrix_known : FnOk P w K mg base (L2.CX P w) 1 f_Matrix_known fd_Matrix_known ["self", "p", "q", "letter"] (spB ca 4 B_Matrix_known)) (D__law_draws : Dg K mg "_law_draws" "_law_draws" s__law_draws ["script", "count"] f__law_draws fd__law_draws) (G__law_draws : FnOk P w K mg base (L2.CX P w) 1 f__law_draws fd__law_draws ["script", "count"] (spB ca 2 B__law_draws)) (D__law_alphabet : Dg K mg "_law_alphabet" "_law_alphabet" s__law_alphabet ["draws", "most_places", "most_letters"] f__law_alphabet fd__law_alphabet) (G__law_alphabet : FnOk P w K mg base (L2.CX P w) 2 f__law_alphabet fd__law_alphabet ["draws", "most_places", "most_letters"] (spB ca 3 B__law_alphabet)) (D__law_take : Dg K mg "_law_take" "_law_take" s__law_take ["draws", "limit"] f__law_take fd__law_take) (G__law_take : FnOk P w K mg base (L2.CX P w) 1 f__law_take fd__law_take ["draws", "limit"] (spB ca 2 B__law_take)) (D__law_same : Dg K mg "_law_same" "_law_same" s__law_same ["found", "due"] f__law_same fd__law_same) (G__law_same : FnOk P w K mg base (L2.CX P w) 9 f__law_same fd__law_same ["found", "due"] (spB ca 2 (B__law_same 8))) (D_gathered : Dg K mg "gathered" "gathered" s_gathered ["alphabet", "word"] f_gathered fd_gathered) (G_gathered : FnOk P w K mg base (L2.CX P w) 3 f_gathered fd_gathered ["alphabet", "word"] (spB ca 2 B_gathered)) (D__law_nested : Dg K mg "_law_nested" "_law_nested" s__law_nested ["letters", "word", "row"] f__law_nested fd__law_nested) (G__law_nested : FnOk P w K mg base (L2.CX P w) 3 f__law_nested fd__law_nested ["letters", "word", "row"] (spB ca 3 B__law_nested)) (D_nested_count : Dg K mg "nested_count" "nested_count" s_nested_count ["alphabet", "word", "places", "letter"] f_nested_count fd_nested_count) (G_nested_count : FnOk P w K mg base (L2.CX P w) 4 f_nested_count fd_nested_count ["alphabet", "word", "places", "letter"] (spB ca 4 B_nested_count)) (D_telling : Dg K mg "telling" "telling" s_telling ["alphabet", "word", "event", "place"] f_telling fd_telling) (G_telling : FnOk P w K mg base (L2.CX P w) 4 f_telling fd_telling ["alphabet", "word", "event", "place"] (spB ca 4 B_telling)) (D__law_telling : Dg K mg "_law_telling" "_law_telling" s__law_telling ["places", "letters", "word", "event", "place"] f__law_telling fd__law_telling) (G__law_telling : FnOk P w K mg base (L2.CX P w) 3 f__law_telling fd__law_telling ["places", "letters", "word", "event", "place"] (spB ca 5 B__law_telling)) (M_Alphabet : Mf K mg ca "Alphabet" 0 ["self", "places", "letters"] C_Alphabet_ f_Alphabet fd_Alphabet) (G_Alphabet : FnOk P w K mg base (L2.CX P w) 2 f_Alphabet fd_Alphabet ["self", "places", "letters"] (spB ca 3 B_Alphabet___init__)) (M_Matrix : Mf K mg ca "Matrix" 1 ["self", "alphabet"] C_Matrix_ f_Matrix fd_Matrix) (G_Matrix : FnOk P w K mg base (L2.CX P w) 1 f_Matrix fd_Matrix ["self", "alphabet"] (spB ca 2 B_Matrix___init__)) :
    FnOk P w K mg base (L2.CX P w) 10 f_ fd_ ["script"] (spB ca 1 B_law) := by
  have N : (["script", "draws", "turn", "alphabet", "k", "table", "p", "row", "letter", "places", "letters", "word", "matrix", "q", "there", "due", "event", "place", "other"] : List Str).Nodup := sc_law.nd
  refine def_ok F0 sc_law fun cdv A outer s H E hr => ?_
  have hu65 : (cxOf (L2.CX P w) P w K mg base ["script", "draws", "turn", "alphabet", "k", "table", "p", "row", "letter", "places", "letters", "word", "matrix", "q", "there", "due", "event", "place", "other"] "law" (defScope s_law) f_ cdv A outer s H E).A.units + 65 < cLine := by have := hr.un; show (A.deeper _).units + 65 < cLine; omega
  have hu64 : (cxOf (L2.CX P w) P w K mg base ["script", "draws", "turn", "alphabet", "k", "table", "p", "row", "letter", "places", "letters", "word", "matrix", "q", "there", "due", "event", "place", "other"] "law" (defScope s_law) f_ cdv A outer s H E).A.units + 64 < cLine := by omega
  have hu1 : (cxOf (L2.CX P w) P w K mg base ["script", "draws", "turn", "alphabet", "k", "table", "p", "row", "letter", "places", "letters", "word", "matrix", "q", "there", "due", "event", "place", "other"] "law" (defScope s_law) f_ cdv A outer s H E).A.units + 1 < cLine := by omega
  have tk : Takes (cxOf (L2.CX P w) P w K mg base ["script", "draws", "turn", "alphabet", "k", "table", "p", "row", "letter", "places", "letters", "word", "matrix", "q", "there", "due", "event", "place", "other"] "law" (defScope s_law) f_ cdv A outer s H E) (fun cls d _ H' => E cls d H') := takes_of rfl rfl rfl rfl
  unfold S_law
  exact (sss_cons (ss_set N rfl (by first | exact Or.inl rfl | exact Or.inr rfl) (sd_al (se_callN rfl G__law_draws (hr.mono (by decide)) (by rfl) D__law_draws.m D__law_draws.F.kp D__law_draws.b tk (sa_cons (sd_var (pv 0)) (sa_cons sd_int sa_nil rfl) rfl) (by decide) rfl rfl)) rfl (by first | exact Or.inl rfl | exact Or.inr rfl))
    (sss_cons (ss_for [2, 3, 5, 6, 7, 8, 9, 10, 11, 12, 13, 14, 15, 16, 17] (passes_of rfl) rfl (si_r1 (pi_range1 rfl bt.range (sa_cons sd_int sa_nil rfl))) (sg_name (pg_name (i := 2) N rfl (by first | exact Or.inl rfl | exact Or.inr rfl))) (sss_cons (ss_asg (SD.of (se_callN rfl G__law_alphabet (hr.mono (by decide)) (by rfl) D__law_alphabet.m D__law_alphabet.F.kp D__law_alphabet.b tk (sa_cons (sd_var (pv 1)) (sa_cons sd_int (sa_cons sd_int sa_nil rfl) rfl) rfl) (by decide) rfl rfl)) (sg_tup rfl (sgs_cons (sg_name (pg_name (i := 9) N rfl (by first | exact Or.inl rfl | exact Or.inr rfl))) (sgs_cons (sg_name (pg_name (i := 10) N rfl (by first | exact Or.inl rfl | exact Or.inr rfl))) sgs_nil rfl) rfl) (len_cons (len_cons len_nil)) rfl rfl) rfl rfl rfl)
    (sss_cons (ss_if (sb_cmp (op_eqD hu64) lk_eq (SD.of (se_callN rfl G__law_take (hr.mono (by decide)) (by rfl) D__law_take.m D__law_take.F.kp D__law_take.b tk (sa_cons (sd_var (pv 1)) (sa_cons sd_int sa_nil rfl) rfl) (by decide) rfl rfl)) sd_int (nomark _)) (sss_one (ss_asg (sd_tup (sa_cons sd_int (sa_cons (SD.of (se_lc (own := [(("k" : Str), 4)]) rfl N (si_r1 (pi_range1 rfl bt.range (sa_cons (SD.of (se_op op_addA lk_add sd_int (SD.of (se_callN rfl G__law_take (hr.mono (by decide)) (by rfl) D__law_take.m D__law_take.F.kp D__law_take.b tk (sa_cons (sd_var (pv 1)) (sa_cons sd_int sa_nil rfl) rfl) (by decide) rfl rfl)))) sa_nil rfl))) (blkOk_by (by rfl)) (fun _ _ _ _ _ => by exact (sgw_name (pg_name (i := 4) N rfl (by first | exact Or.inl rfl | exact Or.inr rfl)) (by decide))) (fun _ _ _ _ _ => by exact sts_nil) (fun _ _ _ _ _ => by exact (SD.of (se_ix hu1 (sd_tup (sa_cons (sd_tup (sa_cons sd_int (sa_cons sd_int sa_nil rfl) rfl)) (sa_cons (sd_tup (sa_cons sd_int (sa_cons sd_int sa_nil rfl) rfl)) (sa_cons (sd_tup (sa_cons sd_int (sa_cons sd_int sa_nil rfl) rfl)) (sa_cons (sd_tup (sa_cons sd_int sa_nil rfl)) (sa_cons (sd_tup (sa_cons sd_int sa_nil rfl)) sa_nil rfl) rfl) rfl) rfl) rfl)) (SD.of (se_op op_sub lk_sub (SD.of (se_op op_addA lk_add (SD.of (se_op op_mulA lk_mulA (sd_var (pv 4)) sd_int)) (sd_var (pv 2)))) (SD.of (se_op op_mulA lk_mulA sd_int (SD.of (se_op op_fdiv lk_div (SD.of (se_op op_addA lk_add (SD.of (se_op op_mulA lk_mulA (sd_var (pv 4)) sd_int)) (sd_var (pv 2)))) sd_int)))))) (fun _ _ => rfl)))) (fun _ => rfl))) sa_nil rfl) rfl)) (sg_tup rfl (sgs_cons (sg_name (pg_name (i := 9) N rfl (by first | exact Or.inl rfl | exact Or.inr rfl))) (sgs_cons (sg_name (pg_name (i := 10) N rfl (by first | exact Or.inl rfl | exact Or.inr rfl))) sgs_nil rfl) rfl) (len_cons (len_cons len_nil)) rfl rfl) rfl rfl rfl)) sss_nil)
    (sss_cons (ss_set N rfl (by first | exact Or.inl rfl | exact Or.inr rfl) (SD.of (se_mkN (cn := 0) rfl M_Alphabet.ad M_Alphabet.mkk G_Alphabet (hr.mono (by decide)) (by rfl) M_Alphabet.m M_Alphabet.b tk (sa_cons (sd_var (pv 9)) (sa_cons (sd_var (pv 10)) sa_nil rfl) rfl) (by decide) rfl rfl)) rfl (by first | exact Or.inl rfl | exact Or.inr rfl))
    (sss_cons (ss_par (i := 11) (j := 12) rfl N rfl rfl (by decide) rfl rfl (sa_cons (sd_tup sa_nil) (sa_cons (SD.of (se_mkK (cn := 1) rfl M_Matrix.ad M_Matrix.mkk G_Matrix (hr.mono (by decide)) (by rfl) M_Matrix.m M_Matrix.b tk (sa_cons (sd_var (pv 3)) sa_nil rfl) (by decide) rfl rfl)) sa_nil rfl) rfl) (by rfl) rfl)
    (sss_cons (ss_for [8] (passes_of rfl) rfl (si_r1 (pi_range1 rfl bt.range (sa_cons (SD.of (se_callN rfl G__law_take (hr.mono (by decide)) (by rfl) D__law_take.m D__law_take.F.kp D__law_take.b tk (sa_cons (sd_var (pv 1)) (sa_cons sd_int sa_nil rfl) rfl) (by decide) rfl rfl)) sa_nil rfl))) (sg_name (pg_name (i := 4) N rfl (by first | exact Or.inl rfl | exact Or.inr rfl))) (sss_cons (ss_set N rfl (by first | exact Or.inl rfl | exact Or.inr rfl) (SD.of (se_callN rfl G__law_take (hr.mono (by decide)) (by rfl) D__law_take.m D__law_take.F.kp D__law_take.b tk (sa_cons (sd_var (pv 1)) (sa_cons (SD.of (se_b (pe_callB cr_len rfl bt.len b_len (sa_cons (sd_var (pv 10)) sa_nil rfl)) lk_len)) sa_nil rfl) rfl) (by decide) rfl rfl)) rfl (by first | exact Or.inl rfl | exact Or.inr rfl))
    (sss_cons (ss_set N rfl (by first | exact Or.inl rfl | exact Or.inr rfl) (SD.of (se_op op_addA lk_add (sd_var (pv 11)) (sd_tup (sa_cons (sd_var (pv 8)) sa_nil rfl)))) rfl (by first | exact Or.inl rfl | exact Or.inr rfl))
    (sss_one (ss_if (sb_not (sb_t (SD.of (se_callN rfl G__law_same (hr.mono (by decide)) (by rfl) D__law_same.m D__law_same.F.kp D__law_same.b tk (sa_cons (SD.of (se_meth clN_ok (cn := 1) rfl C_Matrix.cl D_Matrix_happen G_Matrix_happen (hr.mono (by decide)) tk (sd_var (pv 12)) (sa_cons (sd_var (pv 8)) sa_nil rfl) rfl rfl rfl)) (sa_cons sd_non sa_nil rfl) rfl) (by decide) rfl rfl)) (fun _ => rfl))) (sss_one (ss_ret (SE.of sd_bl))) sss_nil)))) (fun _ => rfl))
    (sss_cons (ss_set N rfl (by first | exact Or.inl rfl | exact Or.inr rfl) (SD.of (se_callN rfl G_gathered (hr.mono (by decide)) (by rfl) D_gathered.m D_gathered.F.kp D_gathered.b tk (sa_cons (sd_var (pv 3)) (sa_cons (sd_var (pv 11)) sa_nil rfl) rfl) (by decide) rfl rfl)) rfl (by first | exact Or.inl rfl | exact Or.inr rfl))
    (sss_cons (ss_for [6, 8, 13, 14, 15] (passes_of rfl) rfl (si_r1 (pi_range1 rfl bt.range (sa_cons (sd_var (pv 9)) sa_nil rfl))) (sg_name (pg_name (i := 6) N rfl (by first | exact Or.inl rfl | exact Or.inr rfl))) (sss_one (ss_for [8, 13, 14, 15] (passes_of rfl) rfl (si_r1 (pi_range1 rfl bt.range (sa_cons (sd_var (pv 9)) sa_nil rfl))) (sg_name (pg_name (i := 13) N rfl (by first | exact Or.inl rfl | exact Or.inr rfl))) (sss_cons (ss_set N rfl (by first | exact Or.inl rfl | exact Or.inr rfl) (SD.of (se_callN rfl G__law_nested (hr.mono (by decide)) (by rfl) D__law_nested.m D__law_nested.F.kp D__law_nested.b tk (sa_cons (sd_var (pv 10)) (sa_cons (sd_var (pv 11)) (sa_cons (sd_tup (sa_cons (sd_var (pv 6)) (sa_cons (sd_var (pv 13)) sa_nil rfl) rfl)) sa_nil rfl) rfl) rfl) (by decide) rfl rfl)) rfl (by first | exact Or.inl rfl | exact Or.inr rfl))
    (sss_one (ss_for [8, 15] (passes_of rfl) rfl (si_r1 (pi_range1 rfl bt.range (sa_cons (SD.of (se_b (pe_callB cr_len rfl bt.len b_len (sa_cons (sd_var (pv 10)) sa_nil rfl)) lk_len)) sa_nil rfl))) (sg_name (pg_name (i := 8) N rfl (by first | exact Or.inl rfl | exact Or.inr rfl))) (sss_cons (ss_set N rfl (by first | exact Or.inl rfl | exact Or.inr rfl) (SD.of (se_b (pe_callB cr_len rfl bt.len b_len (sa_cons (SD.of (se_lc (own := [(("other" : Str), 18)]) rfl N (si_seq (sd_var (pv 14))) (blkOk_by (by rfl)) (fun _ _ _ _ _ => by exact (sgw_name (pg_name (i := 18) N rfl (by first | exact Or.inl rfl | exact Or.inr rfl)) (by decide))) (fun _ _ _ _ _ => by exact (sts_one (sb_cmp (op_eqD hu64) lk_eq (sd_var (pv 18)) (sd_var (pv 8)) (nomark _)))) (fun _ _ _ _ _ => by exact sd_int) (fun _ => rfl))) sa_nil rfl)) lk_len)) rfl (by first | exact Or.inl rfl | exact Or.inr rfl))
    (sss_cons (ss_if (sb_w (sw_or (sb_not (sb_t (SD.of (se_callN rfl G__law_same (hr.mono (by decide)) (by rfl) D__law_same.m D__law_same.F.kp D__law_same.b tk (sa_cons (SD.of (se_meth clN_ok (cn := 1) rfl C_Matrix.cl D_Matrix_known G_Matrix_known (hr.mono (by decide)) tk (sd_var (pv 12)) (sa_cons (sd_var (pv 6)) (sa_cons (sd_var (pv 13)) (sa_cons (sd_var (pv 8)) sa_nil rfl) rfl) rfl) rfl rfl rfl)) (sa_cons (sd_var (pv 15)) sa_nil rfl) rfl) (by decide) rfl rfl)) (fun _ => rfl))) (sw_or1 (sb_not (sb_t (SD.of (se_callN rfl G__law_same (hr.mono (by decide)) (by rfl) D__law_same.m D__law_same.F.kp D__law_same.b tk (sa_cons (SD.of (se_callN rfl G_nested_count (hr.mono (by decide)) (by rfl) D_nested_count.m D_nested_count.F.kp D_nested_count.b tk (sa_cons (sd_var (pv 3)) (sa_cons (sd_var (pv 11)) (sa_cons (sd_tup (sa_cons (sd_var (pv 6)) (sa_cons (sd_var (pv 13)) sa_nil rfl) rfl)) (sa_cons (sd_var (pv 8)) sa_nil rfl) rfl) rfl) rfl) (by decide) rfl rfl)) (sa_cons (sd_var (pv 15)) sa_nil rfl) rfl) (by decide) rfl rfl)) (fun _ => rfl)))))) (sss_one (ss_ret (SE.of sd_bl))) sss_nil)
    (sss_one (ss_if (sb_w (sw_and (sb_cmp (op_eqD hu64) lk_eq (sd_var (pv 6)) (sd_var (pv 13)) (nomark _)) (sw_and1 (sb_cmp (op_neD hu64) lk_ne (SD.of (se_ix hu1 (SD.of (se_ix hu1 (sd_var (pv 5)) (sd_var (pv 6)) (fun _ _ => rfl))) (sd_var (pv 8)) (fun _ _ => rfl))) (sd_var (pv 15)) (nomark _))))) (sss_one (ss_ret (SE.of sd_bl))) sss_nil)))) (fun _ => rfl)))) (fun _ => rfl))) (fun _ => rfl))
    (sss_cons (ss_set N rfl (by first | exact Or.inl rfl | exact Or.inr rfl) (SD.of (se_b (pe_callTy call_tuple_of rfl bt.tuple b_tuple (sa_cons (SD.of (se_lc (own := [(("k" : Str), 4)]) rfl N (si_r1 (pi_range1 rfl bt.range (sa_cons (SD.of (se_op op_addA lk_add sd_int (SD.of (se_callN rfl G__law_take (hr.mono (by decide)) (by rfl) D__law_take.m D__law_take.F.kp D__law_take.b tk (sa_cons (sd_var (pv 1)) (sa_cons sd_int sa_nil rfl) rfl) (by decide) rfl rfl)))) sa_nil rfl))) (blkOk_by (by rfl)) (fun _ _ _ _ _ => by exact (sgw_name (pg_name (i := 4) N rfl (by first | exact Or.inl rfl | exact Or.inr rfl)) (by decide))) (fun _ _ _ _ _ => by exact sts_nil) (fun _ _ _ _ _ => by exact (SD.of (se_callN rfl G__law_take (hr.mono (by decide)) (by rfl) D__law_take.m D__law_take.F.kp D__law_take.b tk0 (sa_cons (sd_var (pv 1)) (sa_cons (sd_var (pv 9)) sa_nil rfl) rfl) (by decide) rfl rfl))) (fun _ => rfl))) sa_nil rfl)) lk_tuple)) rfl (by first | exact Or.inl rfl | exact Or.inr rfl))
    (sss_cons (ss_set N rfl (by first | exact Or.inl rfl | exact Or.inr rfl) (SD.of (se_callN rfl G__law_take (hr.mono (by decide)) (by rfl) D__law_take.m D__law_take.F.kp D__law_take.b tk (sa_cons (sd_var (pv 1)) (sa_cons (SD.of (se_b (pe_callB cr_len rfl bt.len b_len (sa_cons (sd_var (pv 10)) sa_nil rfl)) lk_len)) sa_nil rfl) rfl) (by decide) rfl rfl)) rfl (by first | exact Or.inl rfl | exact Or.inr rfl))
    (sss_cons (ss_if (sb_not (sb_t (SD.of (se_callN rfl G__law_same (hr.mono (by decide)) (by rfl) D__law_same.m D__law_same.F.kp D__law_same.b tk (sa_cons (SD.of (se_callN rfl G_nested_count (hr.mono (by decide)) (by rfl) D_nested_count.m D_nested_count.F.kp D_nested_count.b tk (sa_cons (sd_var (pv 3)) (sa_cons (sd_var (pv 11)) (sa_cons (sd_var (pv 7)) (sa_cons (sd_var (pv 8)) sa_nil rfl) rfl) rfl) rfl) (by decide) rfl rfl)) (sa_cons (SD.of (se_b (pe_callB cr_len rfl bt.len b_len (sa_cons (SD.of (se_lc (own := [(("other" : Str), 18)]) rfl N (si_seq (SD.of (se_callN rfl G__law_nested (hr.mono (by decide)) (by rfl) D__law_nested.m D__law_nested.F.kp D__law_nested.b tk (sa_cons (sd_var (pv 10)) (sa_cons (sd_var (pv 11)) (sa_cons (sd_var (pv 7)) sa_nil rfl) rfl) rfl) (by decide) rfl rfl))) (blkOk_by (by rfl)) (fun _ _ _ _ _ => by exact (sgw_name (pg_name (i := 18) N rfl (by first | exact Or.inl rfl | exact Or.inr rfl)) (by decide))) (fun _ _ _ _ _ => by exact (sts_one (sb_cmp (op_eqD hu64) lk_eq (sd_var (pv 18)) (sd_var (pv 8)) (nomark _)))) (fun _ _ _ _ _ => by exact sd_int) (fun _ => rfl))) sa_nil rfl)) lk_len)) sa_nil rfl) rfl) (by decide) rfl rfl)) (fun _ => rfl))) (sss_one (ss_ret (SE.of sd_bl))) sss_nil)
    (sss_one (ss_for [16, 17] (passes_of rfl) rfl (si_r1 (pi_range1 rfl bt.range (sa_cons sd_int sa_nil rfl))) (sg_name (pg_name (i := 4) N rfl (by first | exact Or.inl rfl | exact Or.inr rfl))) (sss_one (ss_if (sb_cmp op_gt lk_gt (SD.of (se_b (pe_callB cr_len rfl bt.len b_len (sa_cons (sd_var (pv 11)) sa_nil rfl)) lk_len)) sd_int (nomark _)) (sss_cons (ss_par (i := 16) (j := 17) rfl N rfl rfl (by decide) rfl rfl (sa_cons (SD.of (se_callN rfl G__law_take (hr.mono (by decide)) (by rfl) D__law_take.m D__law_take.F.kp D__law_take.b tk (sa_cons (sd_var (pv 1)) (sa_cons (SD.of (se_b (pe_callB cr_len rfl bt.len b_len (sa_cons (sd_var (pv 11)) sa_nil rfl)) lk_len)) sa_nil rfl) rfl) (by decide) rfl rfl)) (sa_cons (SD.of (se_callN rfl G__law_take (hr.mono (by decide)) (by rfl) D__law_take.m D__law_take.F.kp D__law_take.b tk (sa_cons (sd_var (pv 1)) (sa_cons (sd_var (pv 9)) sa_nil rfl) rfl) (by decide) rfl rfl)) sa_nil rfl) rfl) (by rfl) rfl)
    (sss_one (ss_if (sb_not (sb_t (SD.of (se_callN rfl G__law_same (hr.mono (by decide)) (by rfl) D__law_same.m D__law_same.F.kp D__law_same.b tk (sa_cons (SD.of (se_callN rfl G_telling (hr.mono (by decide)) (by rfl) D_telling.m D_telling.F.kp D_telling.b tk (sa_cons (sd_var (pv 3)) (sa_cons (sd_var (pv 11)) (sa_cons (sd_var (pv 16)) (sa_cons (sd_var (pv 17)) sa_nil rfl) rfl) rfl) rfl) (by decide) rfl rfl)) (sa_cons (SD.of (se_callN rfl G__law_telling (hr.mono (by decide)) (by rfl) D__law_telling.m D__law_telling.F.kp D__law_telling.b tk (sa_cons (sd_var (pv 9)) (sa_cons (sd_var (pv 10)) (sa_cons (sd_var (pv 11)) (sa_cons (sd_var (pv 16)) (sa_cons (sd_var (pv 17)) sa_nil rfl) rfl) rfl) rfl) rfl) (by decide) rfl rfl)) sa_nil rfl) rfl) (by decide) rfl rfl)) (fun _ => rfl))) (sss_one (ss_ret (SE.of sd_bl))) sss_nil))) sss_nil)) (fun _ => rfl))))))))))))) (fun _ => rfl))
    (sss_one (ss_ret (SE.of sd_bl)))))
end
def cls : List (Str × List Str) := [("Alphabet", ["places", "letters"]), ("Matrix", ["alphabet", "_rows"]), ("Ledger", ["_alphabet", "_rows"]), ("InvalidAlphabet", [])]
def tbs : List (Str × Str) := []
theorem all_mk {l : PySem.W.OpenLaw} {w : World} {K : PySem.W.Frag} {h : Heap} {mg : Str → Option Value} {fa : Addr} {A_Alphabet : Addr} {A_Matrix : Addr} {A_Ledger : Addr} {A_InvalidAlphabet : Addr} {E_fits : Addr} {od_fits an_fits : Option Addr} {sl_fits : Array (Option Value)} {oc_fits kV_fits dc_fits pm_fits ct_fits : Value} {cd_fits : Value} {E_independent : Addr} {od_independent an_independent : Option Addr} {sl_independent : Array (Option Value)} {oc_independent kV_independent dc_independent pm_independent ct_independent : Value} {cd_independent : Value} {E_events_at : Addr} {od_events_at an_events_at : Option Addr} {sl_events_at : Array (Option Value)} {oc_events_at kV_events_at dc_events_at pm_events_at ct_events_at : Value} {cd_events_at : Value} {E_Matrix___init__ : Addr} {od_Matrix___init__ an_Matrix___init__ : Option Addr} {sl_Matrix___init__ : Array (Option Value)} {oc_Matrix___init__ kV_Matrix___init__ dc_Matrix___init__ pm_Matrix___init__ ct_Matrix___init__ : Value} {cd_Matrix___init__ : Value} {E_Matrix_known : Addr} {od_Matrix_known an_Matrix_known : Option Addr} {sl_Matrix_known : Array (Option Value)} {oc_Matrix_known kV_Matrix_known dc_Matrix_known pm_Matrix_known ct_Matrix_known : Value} {cd_Matrix_known : Value} {E_greatest : Addr} {od_greatest an_greatest : Option Addr} {sl_greatest : Array (Option Value)} {oc_greatest kV_greatest dc_greatest pm_greatest ct_greatest : Value} {cd_greatest : Value} {E_Ledger___init__ : Addr} {od_Ledger___init__ an_Ledger___init__ : Option Addr} {sl_Ledger___init__ : Array (Option Value)} {oc_Ledger___init__ kV_Ledger___init__ dc_Ledger___init__ pm_Ledger___init__ ct_Ledger___init__ : Value} {cd_Ledger___init__ : Value} {E_Ledger_happen : Addr} {od_Ledger_happen an_Ledger_happen : Option Addr} {sl_Ledger_happen : Array (Option Value)} {oc_Ledger_happen kV_Ledger_happen dc_Ledger_happen pm_Ledger_happen ct_Ledger_happen : Value} {cd_Ledger_happen : Value} {E_Ledger_known : Addr} {od_Ledger_known an_Ledger_known : Option Addr} {sl_Ledger_known : Array (Option Value)} {oc_Ledger_known kV_Ledger_known dc_Ledger_known pm_Ledger_known ct_Ledger_known : Value} {cd_Ledger_known : Value} {E__law_draws : Addr} {od__law_draws an__law_draws : Option Addr} {sl__law_draws : Array (Option Value)} {oc__law_draws kV__law_draws dc__law_draws pm__law_draws ct__law_draws : Value} {cd__law_draws : Value} {E__law_take : Addr} {od__law_take an__law_take : Option Addr} {sl__law_take : Array (Option Value)} {oc__law_take kV__law_take dc__law_take pm__law_take ct__law_take : Value} {cd__law_take : Value} {E__law_meet : Addr} {od__law_meet an__law_meet : Option Addr} {sl__law_meet : Array (Option Value)} {oc__law_meet kV__law_meet dc__law_meet pm__law_meet ct__law_meet : Value} {cd__law_meet : Value} {E_Alphabet___init__ : Addr} {od_Alphabet___init__ an_Alphabet___init__ : Option Addr} {sl_Alphabet___init__ : Array (Option Value)} {oc_Alphabet___init__ kV_Alphabet___init__ dc_Alphabet___init__ pm_Alphabet___init__ ct_Alphabet___init__ : Value} {cd_Alphabet___init__ : Value} {E_below_all : Addr} {od_below_all an_below_all : Option Addr} {sl_below_all : Array (Option Value)} {oc_below_all kV_below_all dc_below_all pm_below_all ct_below_all : Value} {cd_below_all : Value} {E_Matrix_happen : Addr} {od_Matrix_happen an_Matrix_happen : Option Addr} {sl_Matrix_happen : Array (Option Value)} {oc_Matrix_happen kV_Matrix_happen dc_Matrix_happen pm_Matrix_happen ct_Matrix_happen : Value} {cd_Matrix_happen : Value} {E__law_alphabet : Addr} {od__law_alphabet an__law_alphabet : Option Addr} {sl__law_alphabet : Array (Option Value)} {oc__law_alphabet kV__law_alphabet dc__law_alphabet pm__law_alphabet ct__law_alphabet : Value} {cd__law_alphabet : Value} {E__law_view : Addr} {od__law_view an__law_view : Option Addr} {sl__law_view : Array (Option Value)} {oc__law_view kV__law_view dc__law_view pm__law_view ct__law_view : Value} {cd__law_view : Value} {E_view : Addr} {od_view an_view : Option Addr} {sl_view : Array (Option Value)} {oc_view kV_view dc_view pm_view ct_view : Value} {cd_view : Value} {E_gathered : Addr} {od_gathered an_gathered : Option Addr} {sl_gathered : Array (Option Value)} {oc_gathered kV_gathered dc_gathered pm_gathered ct_gathered : Value} {cd_gathered : Value} {E__law_nested : Addr} {od__law_nested an__law_nested : Option Addr} {sl__law_nested : Array (Option Value)} {oc__law_nested kV__law_nested dc__law_nested pm__law_nested ct__law_nested : Value} {cd__law_nested : Value} {E__law_telling : Addr} {od__law_telling an__law_telling : Option Addr} {sl__law_telling : Array (Option Value)} {oc__law_telling kV__law_telling dc__law_telling pm__law_telling ct__law_telling : Value} {cd__law_telling : Value} {E_nested_count : Addr} {od_nested_count an_nested_count : Option Addr} {sl_nested_count : Array (Option Value)} {oc_nested_count kV_nested_count dc_nested_count pm_nested_count ct_nested_count : Value} {cd_nested_count : Value} {E_telling : Addr} {od_telling an_telling : Option Addr} {sl_telling : Array (Option Value)} {oc_telling kV_telling dc_telling pm_telling ct_telling : Value} {cd_telling : Value} {E__law_same : Addr} {od__law_same an__law_same : Option Addr} {sl__law_same : Array (Option Value)} {oc__law_same kV__law_same dc__law_same pm__law_same ct__law_same : Value} {cd__law_same : Value} {E_law : Addr} {od_law an_law : Option Addr} {sl_law : Array (Option Value)} {oc_law kV_law dc_law pm_law ct_law : Value} {cd_law : Value} {t_MOST_LETTERS : Tok} {t_MOST_PLACES : Tok} (X : K.In h) (G : h.Ns mainGlobals mg) (hfa : mg "law" = some (.ref fa))
    (aC_Alphabet : PySem.W.nsIn K mainGlobals "Alphabet" = some (some (.ref A_Alphabet)))
    (pg_Alphabet : PySem.W.plainGet K A_Alphabet Str.empty = true)
    (hd_Alphabet : PySem.W.hasDictIn K A_Alphabet = true)
    (po_Alphabet : PySem.W.plainOver K A_Alphabet = true)
    (sa_Alphabet : PySem.W.findIn K (.ref A_Alphabet) "__setattr__" = some (some (.builtin "object.__setattr__")))
    (mk_Alphabet : PySem.W.makesIn K A_Alphabet = true)
    (kc_Alphabet : PySem.W.keepIn K (.ref A_Alphabet) = true)
    (na_Alphabet_places : PySem.W.findIn K (.ref A_Alphabet) "places" = some none)
    (na_Alphabet_letters : PySem.W.findIn K (.ref A_Alphabet) "letters" = some none)
    (aC_Matrix : PySem.W.nsIn K mainGlobals "Matrix" = some (some (.ref A_Matrix)))
    (pg_Matrix : PySem.W.plainGet K A_Matrix Str.empty = true)
    (hd_Matrix : PySem.W.hasDictIn K A_Matrix = true)
    (po_Matrix : PySem.W.plainOver K A_Matrix = true)
    (sa_Matrix : PySem.W.findIn K (.ref A_Matrix) "__setattr__" = some (some (.builtin "object.__setattr__")))
    (mk_Matrix : PySem.W.makesIn K A_Matrix = true)
    (kc_Matrix : PySem.W.keepIn K (.ref A_Matrix) = true)
    (na_Matrix_alphabet : PySem.W.findIn K (.ref A_Matrix) "alphabet" = some none)
    (na_Matrix__rows : PySem.W.findIn K (.ref A_Matrix) "_rows" = some none)
    (aC_Ledger : PySem.W.nsIn K mainGlobals "Ledger" = some (some (.ref A_Ledger)))
    (pg_Ledger : PySem.W.plainGet K A_Ledger Str.empty = true)
    (hd_Ledger : PySem.W.hasDictIn K A_Ledger = true)
    (po_Ledger : PySem.W.plainOver K A_Ledger = true)
    (sa_Ledger : PySem.W.findIn K (.ref A_Ledger) "__setattr__" = some (some (.builtin "object.__setattr__")))
    (mk_Ledger : PySem.W.makesIn K A_Ledger = true)
    (kc_Ledger : PySem.W.keepIn K (.ref A_Ledger) = true)
    (na_Ledger__alphabet : PySem.W.findIn K (.ref A_Ledger) "_alphabet" = some none)
    (na_Ledger__rows : PySem.W.findIn K (.ref A_Ledger) "_rows" = some none)
    (aC_InvalidAlphabet : PySem.W.nsIn K mainGlobals "InvalidAlphabet" = some (some (.ref A_InvalidAlphabet)))
    (ex_InvalidAlphabet : PySem.W.excIn K A_InvalidAlphabet [.type "ValueError", .type "Exception", .type "BaseException", .type "object"] "ValueError.__new__" = true)
    (kc_InvalidAlphabet : PySem.W.keepIn K (.ref A_InvalidAlphabet) = true)
    (sb_InvalidAlphabet : PySem.W.subIn K (.ref A_InvalidAlphabet) (.type "BaseException") = some true)
    (ty_InvalidAlphabet : PySem.W.typeIn K (.ref A_InvalidAlphabet) = some (.type "type"))
    (ic_InvalidAlphabet : PySem.W.isClsIn K A_InvalidAlphabet = true)
    (sc_InvalidAlphabet : PySem.W.subIn K (.ref A_InvalidAlphabet) (.ref A_InvalidAlphabet) = some true)
    (a_fits : PySem.W.nsIn K mainGlobals "fits" = some (some (.ref E_fits)))
    (l_fits : K.lookup E_fits = some ⟨oc_fits, od_fits, .func (PySem.W.fnOf "fits" "fits" (defArgs s_fits) (defBody s_fits) (defScope s_fits) .none kV_fits dc_fits pm_fits an_fits cd_fits ct_fits), sl_fits⟩)
    (cc_fits : PySem.W.codeIn K cd_fits "fits" = true)
    (k_fits : PySem.W.keepIn K (.ref E_fits) = true)
    (a_independent : PySem.W.nsIn K mainGlobals "independent" = some (some (.ref E_independent)))
    (l_independent : K.lookup E_independent = some ⟨oc_independent, od_independent, .func (PySem.W.fnOf "independent" "independent" (defArgs s_independent) (defBody s_independent) (defScope s_independent) .none kV_independent dc_independent pm_independent an_independent cd_independent ct_independent), sl_independent⟩)
    (cc_independent : PySem.W.codeIn K cd_independent "independent" = true)
    (k_independent : PySem.W.keepIn K (.ref E_independent) = true)
    (a_events_at : PySem.W.nsIn K mainGlobals "events_at" = some (some (.ref E_events_at)))
    (l_events_at : K.lookup E_events_at = some ⟨oc_events_at, od_events_at, .func (PySem.W.fnOf "events_at" "events_at" (defArgs s_events_at) (defBody s_events_at) (defScope s_events_at) .none kV_events_at dc_events_at pm_events_at an_events_at cd_events_at ct_events_at), sl_events_at⟩)
    (cc_events_at : PySem.W.codeIn K cd_events_at "events_at" = true)
    (k_events_at : PySem.W.keepIn K (.ref E_events_at) = true)
    (a_Matrix___init__ : PySem.W.findIn K (.ref A_Matrix) "__init__" = some (some (.ref E_Matrix___init__)))
    (i_Matrix___init__ : PySem.W.isFn K (.ref E_Matrix___init__) = true)
    (l_Matrix___init__ : K.lookup E_Matrix___init__ = some ⟨oc_Matrix___init__, od_Matrix___init__, .func (PySem.W.fnOf "__init__" "Matrix.__init__" (defArgs s_Matrix___init__) (defBody s_Matrix___init__) (defScope s_Matrix___init__) .none kV_Matrix___init__ dc_Matrix___init__ pm_Matrix___init__ an_Matrix___init__ cd_Matrix___init__ ct_Matrix___init__), sl_Matrix___init__⟩)
    (cc_Matrix___init__ : PySem.W.codeIn K cd_Matrix___init__ "Matrix.__init__" = true)
    (k_Matrix___init__ : PySem.W.keepIn K (.ref E_Matrix___init__) = true)
    (a_Matrix_known : PySem.W.findIn K (.ref A_Matrix) "known" = some (some (.ref E_Matrix_known)))
    (i_Matrix_known : PySem.W.isFn K (.ref E_Matrix_known) = true)
    (l_Matrix_known : K.lookup E_Matrix_known = some ⟨oc_Matrix_known, od_Matrix_known, .func (PySem.W.fnOf "known" "Matrix.known" (defArgs s_Matrix_known) (defBody s_Matrix_known) (defScope s_Matrix_known) .none kV_Matrix_known dc_Matrix_known pm_Matrix_known an_Matrix_known cd_Matrix_known ct_Matrix_known), sl_Matrix_known⟩)
    (cc_Matrix_known : PySem.W.codeIn K cd_Matrix_known "Matrix.known" = true)
    (k_Matrix_known : PySem.W.keepIn K (.ref E_Matrix_known) = true)
    (a_greatest : PySem.W.nsIn K mainGlobals "greatest" = some (some (.ref E_greatest)))
    (l_greatest : K.lookup E_greatest = some ⟨oc_greatest, od_greatest, .func (PySem.W.fnOf "greatest" "greatest" (defArgs s_greatest) (defBody s_greatest) (defScope s_greatest) .none kV_greatest dc_greatest pm_greatest an_greatest cd_greatest ct_greatest), sl_greatest⟩)
    (cc_greatest : PySem.W.codeIn K cd_greatest "greatest" = true)
    (k_greatest : PySem.W.keepIn K (.ref E_greatest) = true)
    (a_Ledger___init__ : PySem.W.findIn K (.ref A_Ledger) "__init__" = some (some (.ref E_Ledger___init__)))
    (i_Ledger___init__ : PySem.W.isFn K (.ref E_Ledger___init__) = true)
    (l_Ledger___init__ : K.lookup E_Ledger___init__ = some ⟨oc_Ledger___init__, od_Ledger___init__, .func (PySem.W.fnOf "__init__" "Ledger.__init__" (defArgs s_Ledger___init__) (defBody s_Ledger___init__) (defScope s_Ledger___init__) .none kV_Ledger___init__ dc_Ledger___init__ pm_Ledger___init__ an_Ledger___init__ cd_Ledger___init__ ct_Ledger___init__), sl_Ledger___init__⟩)
    (cc_Ledger___init__ : PySem.W.codeIn K cd_Ledger___init__ "Ledger.__init__" = true)
    (k_Ledger___init__ : PySem.W.keepIn K (.ref E_Ledger___init__) = true)
    (a_Ledger_happen : PySem.W.findIn K (.ref A_Ledger) "happen" = some (some (.ref E_Ledger_happen)))
    (i_Ledger_happen : PySem.W.isFn K (.ref E_Ledger_happen) = true)
    (l_Ledger_happen : K.lookup E_Ledger_happen = some ⟨oc_Ledger_happen, od_Ledger_happen, .func (PySem.W.fnOf "happen" "Ledger.happen" (defArgs s_Ledger_happen) (defBody s_Ledger_happen) (defScope s_Ledger_happen) .none kV_Ledger_happen dc_Ledger_happen pm_Ledger_happen an_Ledger_happen cd_Ledger_happen ct_Ledger_happen), sl_Ledger_happen⟩)
    (cc_Ledger_happen : PySem.W.codeIn K cd_Ledger_happen "Ledger.happen" = true)
    (k_Ledger_happen : PySem.W.keepIn K (.ref E_Ledger_happen) = true)
    (a_Ledger_known : PySem.W.findIn K (.ref A_Ledger) "known" = some (some (.ref E_Ledger_known)))
    (i_Ledger_known : PySem.W.isFn K (.ref E_Ledger_known) = true)
    (l_Ledger_known : K.lookup E_Ledger_known = some ⟨oc_Ledger_known, od_Ledger_known, .func (PySem.W.fnOf "known" "Ledger.known" (defArgs s_Ledger_known) (defBody s_Ledger_known) (defScope s_Ledger_known) .none kV_Ledger_known dc_Ledger_known pm_Ledger_known an_Ledger_known cd_Ledger_known ct_Ledger_known), sl_Ledger_known⟩)
    (cc_Ledger_known : PySem.W.codeIn K cd_Ledger_known "Ledger.known" = true)
    (k_Ledger_known : PySem.W.keepIn K (.ref E_Ledger_known) = true)
    (a__law_draws : PySem.W.nsIn K mainGlobals "_law_draws" = some (some (.ref E__law_draws)))
    (l__law_draws : K.lookup E__law_draws = some ⟨oc__law_draws, od__law_draws, .func (PySem.W.fnOf "_law_draws" "_law_draws" (defArgs s__law_draws) (defBody s__law_draws) (defScope s__law_draws) .none kV__law_draws dc__law_draws pm__law_draws an__law_draws cd__law_draws ct__law_draws), sl__law_draws⟩)
    (cc__law_draws : PySem.W.codeIn K cd__law_draws "_law_draws" = true)
    (k__law_draws : PySem.W.keepIn K (.ref E__law_draws) = true)
    (a__law_take : PySem.W.nsIn K mainGlobals "_law_take" = some (some (.ref E__law_take)))
    (l__law_take : K.lookup E__law_take = some ⟨oc__law_take, od__law_take, .func (PySem.W.fnOf "_law_take" "_law_take" (defArgs s__law_take) (defBody s__law_take) (defScope s__law_take) .none kV__law_take dc__law_take pm__law_take an__law_take cd__law_take ct__law_take), sl__law_take⟩)
    (cc__law_take : PySem.W.codeIn K cd__law_take "_law_take" = true)
    (k__law_take : PySem.W.keepIn K (.ref E__law_take) = true)
    (a__law_meet : PySem.W.nsIn K mainGlobals "_law_meet" = some (some (.ref E__law_meet)))
    (l__law_meet : K.lookup E__law_meet = some ⟨oc__law_meet, od__law_meet, .func (PySem.W.fnOf "_law_meet" "_law_meet" (defArgs s__law_meet) (defBody s__law_meet) (defScope s__law_meet) .none kV__law_meet dc__law_meet pm__law_meet an__law_meet cd__law_meet ct__law_meet), sl__law_meet⟩)
    (cc__law_meet : PySem.W.codeIn K cd__law_meet "_law_meet" = true)
    (k__law_meet : PySem.W.keepIn K (.ref E__law_meet) = true)
    (a_Alphabet___init__ : PySem.W.findIn K (.ref A_Alphabet) "__init__" = some (some (.ref E_Alphabet___init__)))
    (i_Alphabet___init__ : PySem.W.isFn K (.ref E_Alphabet___init__) = true)
    (l_Alphabet___init__ : K.lookup E_Alphabet___init__ = some ⟨oc_Alphabet___init__, od_Alphabet___init__, .func (PySem.W.fnOf "__init__" "Alphabet.__init__" (defArgs s_Alphabet___init__) (defBody s_Alphabet___init__) (defScope s_Alphabet___init__) .none kV_Alphabet___init__ dc_Alphabet___init__ pm_Alphabet___init__ an_Alphabet___init__ cd_Alphabet___init__ ct_Alphabet___init__), sl_Alphabet___init__⟩)
    (cc_Alphabet___init__ : PySem.W.codeIn K cd_Alphabet___init__ "Alphabet.__init__" = true)
    (k_Alphabet___init__ : PySem.W.keepIn K (.ref E_Alphabet___init__) = true)
    (a_below_all : PySem.W.nsIn K mainGlobals "below_all" = some (some (.ref E_below_all)))
    (l_below_all : K.lookup E_below_all = some ⟨oc_below_all, od_below_all, .func (PySem.W.fnOf "below_all" "below_all" (defArgs s_below_all) (defBody s_below_all) (defScope s_below_all) .none kV_below_all dc_below_all pm_below_all an_below_all cd_below_all ct_below_all), sl_below_all⟩)
    (cc_below_all : PySem.W.codeIn K cd_below_all "below_all" = true)
    (k_below_all : PySem.W.keepIn K (.ref E_below_all) = true)
    (a_Matrix_happen : PySem.W.findIn K (.ref A_Matrix) "happen" = some (some (.ref E_Matrix_happen)))
    (i_Matrix_happen : PySem.W.isFn K (.ref E_Matrix_happen) = true)
    (l_Matrix_happen : K.lookup E_Matrix_happen = some ⟨oc_Matrix_happen, od_Matrix_happen, .func (PySem.W.fnOf "happen" "Matrix.happen" (defArgs s_Matrix_happen) (defBody s_Matrix_happen) (defScope s_Matrix_happen) .none kV_Matrix_happen dc_Matrix_happen pm_Matrix_happen an_Matrix_happen cd_Matrix_happen ct_Matrix_happen), sl_Matrix_happen⟩)
    (cc_Matrix_happen : PySem.W.codeIn K cd_Matrix_happen "Matrix.happen" = true)
    (k_Matrix_happen : PySem.W.keepIn K (.ref E_Matrix_happen) = true)
    (a__law_alphabet : PySem.W.nsIn K mainGlobals "_law_alphabet" = some (some (.ref E__law_alphabet)))
    (l__law_alphabet : K.lookup E__law_alphabet = some ⟨oc__law_alphabet, od__law_alphabet, .func (PySem.W.fnOf "_law_alphabet" "_law_alphabet" (defArgs s__law_alphabet) (defBody s__law_alphabet) (defScope s__law_alphabet) .none kV__law_alphabet dc__law_alphabet pm__law_alphabet an__law_alphabet cd__law_alphabet ct__law_alphabet), sl__law_alphabet⟩)
    (cc__law_alphabet : PySem.W.codeIn K cd__law_alphabet "_law_alphabet" = true)
    (k__law_alphabet : PySem.W.keepIn K (.ref E__law_alphabet) = true)
    (a__law_view : PySem.W.nsIn K mainGlobals "_law_view" = some (some (.ref E__law_view)))
    (l__law_view : K.lookup E__law_view = some ⟨oc__law_view, od__law_view, .func (PySem.W.fnOf "_law_view" "_law_view" (defArgs s__law_view) (defBody s__law_view) (defScope s__law_view) .none kV__law_view dc__law_view pm__law_view an__law_view cd__law_view ct__law_view), sl__law_view⟩)
    (cc__law_view : PySem.W.codeIn K cd__law_view "_law_view" = true)
    (k__law_view : PySem.W.keepIn K (.ref E__law_view) = true)
    (a_view : PySem.W.nsIn K mainGlobals "view" = some (some (.ref E_view)))
    (l_view : K.lookup E_view = some ⟨oc_view, od_view, .func (PySem.W.fnOf "view" "view" (defArgs s_view) (defBody s_view) (defScope s_view) .none kV_view dc_view pm_view an_view cd_view ct_view), sl_view⟩)
    (cc_view : PySem.W.codeIn K cd_view "view" = true)
    (k_view : PySem.W.keepIn K (.ref E_view) = true)
    (a_gathered : PySem.W.nsIn K mainGlobals "gathered" = some (some (.ref E_gathered)))
    (l_gathered : K.lookup E_gathered = some ⟨oc_gathered, od_gathered, .func (PySem.W.fnOf "gathered" "gathered" (defArgs s_gathered) (defBody s_gathered) (defScope s_gathered) .none kV_gathered dc_gathered pm_gathered an_gathered cd_gathered ct_gathered), sl_gathered⟩)
    (cc_gathered : PySem.W.codeIn K cd_gathered "gathered" = true)
    (k_gathered : PySem.W.keepIn K (.ref E_gathered) = true)
    (a__law_nested : PySem.W.nsIn K mainGlobals "_law_nested" = some (some (.ref E__law_nested)))
    (l__law_nested : K.lookup E__law_nested = some ⟨oc__law_nested, od__law_nested, .func (PySem.W.fnOf "_law_nested" "_law_nested" (defArgs s__law_nested) (defBody s__law_nested) (defScope s__law_nested) .none kV__law_nested dc__law_nested pm__law_nested an__law_nested cd__law_nested ct__law_nested), sl__law_nested⟩)
    (cc__law_nested : PySem.W.codeIn K cd__law_nested "_law_nested" = true)
    (k__law_nested : PySem.W.keepIn K (.ref E__law_nested) = true)
    (a__law_telling : PySem.W.nsIn K mainGlobals "_law_telling" = some (some (.ref E__law_telling)))
    (l__law_telling : K.lookup E__law_telling = some ⟨oc__law_telling, od__law_telling, .func (PySem.W.fnOf "_law_telling" "_law_telling" (defArgs s__law_telling) (defBody s__law_telling) (defScope s__law_telling) .none kV__law_telling dc__law_telling pm__law_telling an__law_telling cd__law_telling ct__law_telling), sl__law_telling⟩)
    (cc__law_telling : PySem.W.codeIn K cd__law_telling "_law_telling" = true)
    (k__law_telling : PySem.W.keepIn K (.ref E__law_telling) = true)
    (a_nested_count : PySem.W.nsIn K mainGlobals "nested_count" = some (some (.ref E_nested_count)))
    (l_nested_count : K.lookup E_nested_count = some ⟨oc_nested_count, od_nested_count, .func (PySem.W.fnOf "nested_count" "nested_count" (defArgs s_nested_count) (defBody s_nested_count) (defScope s_nested_count) .none kV_nested_count dc_nested_count pm_nested_count an_nested_count cd_nested_count ct_nested_count), sl_nested_count⟩)
    (cc_nested_count : PySem.W.codeIn K cd_nested_count "nested_count" = true)
    (k_nested_count : PySem.W.keepIn K (.ref E_nested_count) = true)
    (a_telling : PySem.W.nsIn K mainGlobals "telling" = some (some (.ref E_telling)))
    (l_telling : K.lookup E_telling = some ⟨oc_telling, od_telling, .func (PySem.W.fnOf "telling" "telling" (defArgs s_telling) (defBody s_telling) (defScope s_telling) .none kV_telling dc_telling pm_telling an_telling cd_telling ct_telling), sl_telling⟩)
    (cc_telling : PySem.W.codeIn K cd_telling "telling" = true)
    (k_telling : PySem.W.keepIn K (.ref E_telling) = true)
    (a__law_same : PySem.W.nsIn K mainGlobals "_law_same" = some (some (.ref E__law_same)))
    (l__law_same : K.lookup E__law_same = some ⟨oc__law_same, od__law_same, .func (PySem.W.fnOf "_law_same" "_law_same" (defArgs s__law_same) (defBody s__law_same) (defScope s__law_same) .none kV__law_same dc__law_same pm__law_same an__law_same cd__law_same ct__law_same), sl__law_same⟩)
    (cc__law_same : PySem.W.codeIn K cd__law_same "_law_same" = true)
    (k__law_same : PySem.W.keepIn K (.ref E__law_same) = true)
    (a_law : PySem.W.nsIn K mainGlobals "law" = some (some (.ref E_law)))
    (l_law : K.lookup E_law = some ⟨oc_law, od_law, .func (PySem.W.fnOf "law" "law" (defArgs s_law) (defBody s_law) (defScope s_law) .none kV_law dc_law pm_law an_law cd_law ct_law), sl_law⟩)
    (cc_law : PySem.W.codeIn K cd_law "law" = true)
    (k_law : PySem.W.keepIn K (.ref E_law) = true)
    (z_all : PySem.W.nsIn K mainGlobals "all" = some none)
    (z_any : PySem.W.nsIn K mainGlobals "any" = some none)
    (z_bool : PySem.W.nsIn K mainGlobals "bool" = some none)
    (z_dict : PySem.W.nsIn K mainGlobals "dict" = some none)
    (z_enumerate : PySem.W.nsIn K mainGlobals "enumerate" = some none)
    (z_int : PySem.W.nsIn K mainGlobals "int" = some none)
    (z_isinstance : PySem.W.nsIn K mainGlobals "isinstance" = some none)
    (z_len : PySem.W.nsIn K mainGlobals "len" = some none)
    (z_list : PySem.W.nsIn K mainGlobals "list" = some none)
    (z_max : PySem.W.nsIn K mainGlobals "max" = some none)
    (z_range : PySem.W.nsIn K mainGlobals "range" = some none)
    (z_set : PySem.W.nsIn K mainGlobals "set" = some none)
    (z_sorted : PySem.W.nsIn K mainGlobals "sorted" = some none)
    (z_str : PySem.W.nsIn K mainGlobals "str" = some none)
    (z_tuple : PySem.W.nsIn K mainGlobals "tuple" = some none)
    (v_MOST_LETTERS : PySem.W.nsIn K mainGlobals "MOST_LETTERS" = some (some (.int 6 t_MOST_LETTERS)))
    (v_MOST_PLACES : PySem.W.nsIn K mainGlobals "MOST_PLACES" = some (some (.int 4 t_MOST_PLACES))) :
    ∃ (fd : FuncData) (cs : List (Addr × Addr)) (ca : Cn), TabF K ca [] cs ∧ (∀ a is, roK K a is → ca.ro a is) ∧ (∀ (s : Shared) (v : Value), BindsTo s fd ⟨[v], []⟩ [("script", v)]) ∧ ∀ base : Heap, K.In base → base.Ns mainGlobals mg → (∀ p ∈ cs, LamX.TabB base mg p.1 p.2) → FnOk l.prog w K mg base (L2.CX l.prog w) 10 fa fd ["script"] (spB ca 1 B_law) := by
  have e := hfa.symm.trans (PySem.W.mg_of X G a_law)
  cases e
  have bt : Bt mg := ⟨PySem.W.mg_none_of X G z_all, PySem.W.mg_none_of X G z_any, PySem.W.mg_none_of X G z_bool, PySem.W.mg_none_of X G z_dict, PySem.W.mg_none_of X G z_enumerate, PySem.W.mg_none_of X G z_int, PySem.W.mg_none_of X G z_isinstance, PySem.W.mg_none_of X G z_len, PySem.W.mg_none_of X G z_list, PySem.W.mg_none_of X G z_max, PySem.W.mg_none_of X G z_range, PySem.W.mg_none_of X G z_set, PySem.W.mg_none_of X G z_sorted, PySem.W.mg_none_of X G z_str, PySem.W.mg_none_of X G z_tuple⟩
  have cs : Cs mg := ⟨⟨_, PySem.W.mg_of X G v_MOST_LETTERS⟩, ⟨_, PySem.W.mg_of X G v_MOST_PLACES⟩⟩
  have hro : ∀ a ns H, (cnK cls tbs l.prog w K).ro a ns → SqL K H a (ns.map V.int) := fun _ _ _ z => .inr z
  have ad_Alphabet : (cnK cls tbs l.prog w K).ad 0 = A_Alphabet := cnK_ad rfl aC_Alphabet
  have C_Alphabet : ClF (cnK cls tbs l.prog w K) K 0 ["places", "letters"] := ⟨by rw [ad_Alphabet]; exact ⟨pg_Alphabet, hd_Alphabet, po_Alphabet, sa_Alphabet⟩, rfl, by rw [ad_Alphabet]; intro f hf; simp only [List.mem_cons, List.not_mem_nil, or_false] at hf; rcases hf with rfl | rfl <;> first | exact na_Alphabet_places | exact na_Alphabet_letters⟩
  have ad_Matrix : (cnK cls tbs l.prog w K).ad 1 = A_Matrix := cnK_ad rfl aC_Matrix
  have C_Matrix : ClF (cnK cls tbs l.prog w K) K 1 ["alphabet", "_rows"] := ⟨by rw [ad_Matrix]; exact ⟨pg_Matrix, hd_Matrix, po_Matrix, sa_Matrix⟩, rfl, by rw [ad_Matrix]; intro f hf; simp only [List.mem_cons, List.not_mem_nil, or_false] at hf; rcases hf with rfl | rfl <;> first | exact na_Matrix_alphabet | exact na_Matrix__rows⟩
  have ad_Ledger : (cnK cls tbs l.prog w K).ad 2 = A_Ledger := cnK_ad rfl aC_Ledger
  have C_Ledger : ClF (cnK cls tbs l.prog w K) K 2 ["_alphabet", "_rows"] := ⟨by rw [ad_Ledger]; exact ⟨pg_Ledger, hd_Ledger, po_Ledger, sa_Ledger⟩, rfl, by rw [ad_Ledger]; intro f hf; simp only [List.mem_cons, List.not_mem_nil, or_false] at hf; rcases hf with rfl | rfl <;> first | exact na_Ledger__alphabet | exact na_Ledger__rows⟩
  have ad_InvalidAlphabet : (cnK cls tbs l.prog w K).ad 3 = A_InvalidAlphabet := cnK_ad rfl aC_InvalidAlphabet
  have Ex_InvalidAlphabet : ExF K mg (cnK cls tbs l.prog w K) "InvalidAlphabet" 3 := by show ExFC K mg "InvalidAlphabet" ((cnK cls tbs l.prog w K).ad 3); rw [ad_InvalidAlphabet]; exact ⟨PySem.W.mg_of X G aC_InvalidAlphabet, ex_InvalidAlphabet, kc_InvalidAlphabet, sb_InvalidAlphabet, ty_InvalidAlphabet, exm_self' sb_InvalidAlphabet ic_InvalidAlphabet ty_InvalidAlphabet sc_InvalidAlphabet⟩
  have F_fits := fun_mk (st := s_fits) l_fits cc_fits k_fits
  have b_fits := F_fits.binds (ps := ["letter", "places"]) fun _ _ _ _ _ _ us hl => match us, hl with | [_, _], _ => rfl
  have F_independent := fun_mk (st := s_independent) l_independent cc_independent k_independent
  have b_independent := F_independent.binds (ps := ["alphabet", "first", "second"]) fun _ _ _ _ _ _ us hl => match us, hl with | [_, _, _], _ => rfl
  have F_events_at := fun_mk (st := s_events_at) l_events_at cc_events_at k_events_at
  have b_events_at := F_events_at.binds (ps := ["alphabet", "word", "place"]) fun _ _ _ _ _ _ us hl => match us, hl with | [_, _, _], _ => rfl
  have F_Matrix___init__ := fun_mk (st := s_Matrix___init__) l_Matrix___init__ cc_Matrix___init__ k_Matrix___init__
  have b_Matrix___init__ := F_Matrix___init__.binds (ps := ["self", "alphabet"]) fun _ _ _ _ _ _ us hl => match us, hl with | [_, _], _ => rfl
  have F_Matrix_known := fun_mk (st := s_Matrix_known) l_Matrix_known cc_Matrix_known k_Matrix_known
  have b_Matrix_known := F_Matrix_known.binds (ps := ["self", "p", "q", "letter"]) fun _ _ _ _ _ _ us hl => match us, hl with | [_, _, _, _], _ => rfl
  have F_greatest := fun_mk (st := s_greatest) l_greatest cc_greatest k_greatest
  have b_greatest := F_greatest.binds (ps := ["rows"]) fun _ _ _ _ _ _ us hl => match us, hl with | [_], _ => rfl
  have F_Ledger___init__ := fun_mk (st := s_Ledger___init__) l_Ledger___init__ cc_Ledger___init__ k_Ledger___init__
  have b_Ledger___init__ := F_Ledger___init__.binds (ps := ["self", "alphabet"]) fun _ _ _ _ _ _ us hl => match us, hl with | [_, _], _ => rfl
  have F_Ledger_happen := fun_mk (st := s_Ledger_happen) l_Ledger_happen cc_Ledger_happen k_Ledger_happen
  have b_Ledger_happen := F_Ledger_happen.binds (ps := ["self", "letter"]) fun _ _ _ _ _ _ us hl => match us, hl with | [_, _], _ => rfl
  have F_Ledger_known := fun_mk (st := s_Ledger_known) l_Ledger_known cc_Ledger_known k_Ledger_known
  have b_Ledger_known := F_Ledger_known.binds (ps := ["self", "place", "letter"]) fun _ _ _ _ _ _ us hl => match us, hl with | [_, _, _], _ => rfl
  have F__law_draws := fun_mk (st := s__law_draws) l__law_draws cc__law_draws k__law_draws
  have b__law_draws := F__law_draws.binds (ps := ["script", "count"]) fun _ _ _ _ _ _ us hl => match us, hl with | [_, _], _ => rfl
  have F__law_take := fun_mk (st := s__law_take) l__law_take cc__law_take k__law_take
  have b__law_take := F__law_take.binds (ps := ["draws", "limit"]) fun _ _ _ _ _ _ us hl => match us, hl with | [_, _], _ => rfl
  have F__law_meet := fun_mk (st := s__law_meet) l__law_meet cc__law_meet k__law_meet
  have b__law_meet := F__law_meet.binds (ps := ["letters", "a", "b"]) fun _ _ _ _ _ _ us hl => match us, hl with | [_, _, _], _ => rfl
  have F_Alphabet___init__ := fun_mk (st := s_Alphabet___init__) l_Alphabet___init__ cc_Alphabet___init__ k_Alphabet___init__
  have b_Alphabet___init__ := F_Alphabet___init__.binds (ps := ["self", "places", "letters"]) fun _ _ _ _ _ _ us hl => match us, hl with | [_, _, _], _ => rfl
  have F_below_all := fun_mk (st := s_below_all) l_below_all cc_below_all k_below_all
  have b_below_all := F_below_all.binds (ps := ["alphabet", "word", "events"]) fun _ _ _ _ _ _ us hl => match us, hl with | [_, _, _], _ => rfl
  have F_Matrix_happen := fun_mk (st := s_Matrix_happen) l_Matrix_happen cc_Matrix_happen k_Matrix_happen
  have b_Matrix_happen := F_Matrix_happen.binds (ps := ["self", "letter"]) fun _ _ _ _ _ _ us hl => match us, hl with | [_, _], _ => rfl
  have F__law_alphabet := fun_mk (st := s__law_alphabet) l__law_alphabet cc__law_alphabet k__law_alphabet
  have b__law_alphabet := F__law_alphabet.binds (ps := ["draws", "most_places", "most_letters"]) fun _ _ _ _ _ _ us hl => match us, hl with | [_, _, _], _ => rfl
  have F__law_view := fun_mk (st := s__law_view) l__law_view cc__law_view k__law_view
  have b__law_view := F__law_view.binds (ps := ["letters", "word", "place"]) fun _ _ _ _ _ _ us hl => match us, hl with | [_, _, _], _ => rfl
  have F_view := fun_mk (st := s_view) l_view cc_view k_view
  have b_view := F_view.binds (ps := ["alphabet", "word", "place"]) fun _ _ _ _ _ _ us hl => match us, hl with | [_, _, _], _ => rfl
  have F_gathered := fun_mk (st := s_gathered) l_gathered cc_gathered k_gathered
  have b_gathered := F_gathered.binds (ps := ["alphabet", "word"]) fun _ _ _ _ _ _ us hl => match us, hl with | [_, _], _ => rfl
  have F__law_nested := fun_mk (st := s__law_nested) l__law_nested cc__law_nested k__law_nested
  have b__law_nested := F__law_nested.binds (ps := ["letters", "word", "row"]) fun _ _ _ _ _ _ us hl => match us, hl with | [_, _, _], _ => rfl
  have F__law_telling := fun_mk (st := s__law_telling) l__law_telling cc__law_telling k__law_telling
  have b__law_telling := F__law_telling.binds (ps := ["places", "letters", "word", "event", "place"]) fun _ _ _ _ _ _ us hl => match us, hl with | [_, _, _, _, _], _ => rfl
  have F_nested_count := fun_mk (st := s_nested_count) l_nested_count cc_nested_count k_nested_count
  have b_nested_count := F_nested_count.binds (ps := ["alphabet", "word", "places", "letter"]) fun _ _ _ _ _ _ us hl => match us, hl with | [_, _, _, _], _ => rfl
  have F_telling := fun_mk (st := s_telling) l_telling cc_telling k_telling
  have b_telling := F_telling.binds (ps := ["alphabet", "word", "event", "place"]) fun _ _ _ _ _ _ us hl => match us, hl with | [_, _, _, _], _ => rfl
  have F__law_same := fun_mk (st := s__law_same) l__law_same cc__law_same k__law_same
  have b__law_same := F__law_same.binds (ps := ["found", "due"]) fun _ _ _ _ _ _ us hl => match us, hl with | [_, _], _ => rfl
  have F_law := fun_mk (st := s_law) l_law cc_law k_law
  have b_law := F_law.binds (ps := ["script"]) fun _ _ _ _ _ _ us hl => match us, hl with | [_], _ => rfl
  have M_Alphabet : Mf K mg (cnK cls tbs l.prog w K) "Alphabet" 0 ["self", "places", "letters"] A_Alphabet E_Alphabet___init__ _ := ⟨ad_Alphabet, ⟨mk_Alphabet, a_Alphabet___init__, i_Alphabet___init__, kc_Alphabet⟩, PySem.W.mg_of X G aC_Alphabet, b_Alphabet___init__⟩
  have M_Matrix : Mf K mg (cnK cls tbs l.prog w K) "Matrix" 1 ["self", "alphabet"] A_Matrix E_Matrix___init__ _ := ⟨ad_Matrix, ⟨mk_Matrix, a_Matrix___init__, i_Matrix___init__, kc_Matrix⟩, PySem.W.mg_of X G aC_Matrix, b_Matrix___init__⟩
  have M_Ledger : Mf K mg (cnK cls tbs l.prog w K) "Ledger" 2 ["self", "alphabet"] A_Ledger E_Ledger___init__ _ := ⟨ad_Ledger, ⟨mk_Ledger, a_Ledger___init__, i_Ledger___init__, kc_Ledger⟩, PySem.W.mg_of X G aC_Ledger, b_Ledger___init__⟩
  have D_Matrix_known : MtF K (cnK cls tbs l.prog w K) 1 "known" s_Matrix_known ["self", "p", "q", "letter"] E_Matrix_known _ := ⟨by rw [ad_Matrix]; exact ⟨a_Matrix_known, i_Matrix_known, k_Matrix_known⟩, by show _ ∉ (["alphabet", "_rows"] : List Str); decide +kernel, b_Matrix_known⟩
  have D_Ledger_happen : MtF K (cnK cls tbs l.prog w K) 2 "happen" s_Ledger_happen ["self", "letter"] E_Ledger_happen _ := ⟨by rw [ad_Ledger]; exact ⟨a_Ledger_happen, i_Ledger_happen, k_Ledger_happen⟩, by show _ ∉ (["_alphabet", "_rows"] : List Str); decide +kernel, b_Ledger_happen⟩
  have D_Ledger_known : MtF K (cnK cls tbs l.prog w K) 2 "known" s_Ledger_known ["self", "place", "letter"] E_Ledger_known _ := ⟨by rw [ad_Ledger]; exact ⟨a_Ledger_known, i_Ledger_known, k_Ledger_known⟩, by show _ ∉ (["_alphabet", "_rows"] : List Str); decide +kernel, b_Ledger_known⟩
  have D_Matrix_happen : MtF K (cnK cls tbs l.prog w K) 1 "happen" s_Matrix_happen ["self", "letter"] E_Matrix_happen _ := ⟨by rw [ad_Matrix]; exact ⟨a_Matrix_happen, i_Matrix_happen, k_Matrix_happen⟩, by show _ ∉ (["alphabet", "_rows"] : List Str); decide +kernel, b_Matrix_happen⟩
  refine ⟨(PySem.W.fnOf "law" "law" (defArgs s_law) (defBody s_law) (defScope s_law) .none kV_law dc_law pm_law an_law cd_law ct_law), [], (cnK cls tbs l.prog w K), ⟨rfl, fun j x h => by (simp at h), fun p hp => by (cases hp), List.nodup_nil, fun j p h => by (simp at h)⟩, fun _ _ z => z, fun s v => .of_eq rfl, fun base _ _ TBs => ?_⟩
  have G_fits := ok_fits (P := l.prog) (w := w) (mg := mg) (base := base) (ca := (cnK cls tbs l.prog w K)) F_fits bt
  have G_independent := ok_independent (P := l.prog) (w := w) (mg := mg) (base := base) (ca := (cnK cls tbs l.prog w K)) F_independent C_Alphabet
  have G_events_at := ok_events_at (P := l.prog) (w := w) (mg := mg) (base := base) (ca := (cnK cls tbs l.prog w K)) F_events_at bt C_Alphabet
  have G_Matrix___init__ := ok_Matrix___init__ (P := l.prog) (w := w) (mg := mg) (base := base) (ca := (cnK cls tbs l.prog w K)) F_Matrix___init__ bt C_Alphabet C_Matrix
  have G_Matrix_known := ok_Matrix_known (P := l.prog) (w := w) (mg := mg) (base := base) (ca := (cnK cls tbs l.prog w K)) F_Matrix_known C_Matrix
  have G_greatest := ok_greatest (P := l.prog) (w := w) (mg := mg) (base := base) (ca := (cnK cls tbs l.prog w K)) F_greatest bt
  have G_Ledger___init__ := ok_Ledger___init__ (P := l.prog) (w := w) (mg := mg) (base := base) (ca := (cnK cls tbs l.prog w K)) F_Ledger___init__ bt C_Alphabet C_Ledger
  have G_Ledger_happen := ok_Ledger_happen (P := l.prog) (w := w) (mg := mg) (base := base) (ca := (cnK cls tbs l.prog w K)) F_Ledger_happen bt C_Alphabet C_Ledger
  have G_Ledger_known := ok_Ledger_known (P := l.prog) (w := w) (mg := mg) (base := base) (ca := (cnK cls tbs l.prog w K)) F_Ledger_known C_Ledger
  have G__law_draws := ok__law_draws (P := l.prog) (w := w) (mg := mg) (base := base) (ca := (cnK cls tbs l.prog w K)) F__law_draws bt hro
  have G__law_take := ok__law_take (P := l.prog) (w := w) (mg := mg) (base := base) (ca := (cnK cls tbs l.prog w K)) F__law_take bt
  have G__law_meet := ok__law_meet (P := l.prog) (w := w) (mg := mg) (base := base) (ca := (cnK cls tbs l.prog w K)) F__law_meet bt
  have G_Alphabet___init__ := ok_Alphabet___init__ (P := l.prog) (w := w) (mg := mg) (base := base) (ca := (cnK cls tbs l.prog w K)) F_Alphabet___init__ bt cs C_Alphabet Ex_InvalidAlphabet ⟨F_fits, PySem.W.mg_of X G a_fits, b_fits⟩ G_fits
  have G_below_all := ok_below_all (P := l.prog) (w := w) (mg := mg) (base := base) (ca := (cnK cls tbs l.prog w K)) F_below_all bt ⟨F_independent, PySem.W.mg_of X G a_independent, b_independent⟩ G_independent
  have G_Matrix_happen := ok_Matrix_happen (P := l.prog) (w := w) (mg := mg) (base := base) (ca := (cnK cls tbs l.prog w K)) F_Matrix_happen bt C_Alphabet C_Matrix ⟨F_greatest, PySem.W.mg_of X G a_greatest, b_greatest⟩ G_greatest
  have G__law_alphabet := ok__law_alphabet (P := l.prog) (w := w) (mg := mg) (base := base) (ca := (cnK cls tbs l.prog w K)) F__law_alphabet bt ⟨F__law_take, PySem.W.mg_of X G a__law_take, b__law_take⟩ G__law_take
  have G__law_view := ok__law_view (P := l.prog) (w := w) (mg := mg) (base := base) (ca := (cnK cls tbs l.prog w K)) F__law_view bt ⟨F__law_meet, PySem.W.mg_of X G a__law_meet, b__law_meet⟩ G__law_meet
  have G_view := ok_view (P := l.prog) (w := w) (mg := mg) (base := base) (ca := (cnK cls tbs l.prog w K)) F_view ⟨F_below_all, PySem.W.mg_of X G a_below_all, b_below_all⟩ G_below_all ⟨F_events_at, PySem.W.mg_of X G a_events_at, b_events_at⟩ G_events_at
  have G_gathered := ok_gathered (P := l.prog) (w := w) (mg := mg) (base := base) (ca := (cnK cls tbs l.prog w K)) F_gathered bt C_Alphabet C_Ledger D_Ledger_happen G_Ledger_happen D_Ledger_known G_Ledger_known M_Ledger G_Ledger___init__
  have G__law_nested := ok__law_nested (P := l.prog) (w := w) (mg := mg) (base := base) (ca := (cnK cls tbs l.prog w K)) F__law_nested bt ⟨F__law_view, PySem.W.mg_of X G a__law_view, b__law_view⟩ G__law_view
  have G__law_telling := ok__law_telling (P := l.prog) (w := w) (mg := mg) (base := base) (ca := (cnK cls tbs l.prog w K)) F__law_telling bt rfl rfl ⟨F__law_view, PySem.W.mg_of X G a__law_view, b__law_view⟩ G__law_view
  have G_nested_count := ok_nested_count (P := l.prog) (w := w) (mg := mg) (base := base) (ca := (cnK cls tbs l.prog w K)) F_nested_count bt ⟨F_view, PySem.W.mg_of X G a_view, b_view⟩ G_view
  have G_telling := ok_telling (P := l.prog) (w := w) (mg := mg) (base := base) (ca := (cnK cls tbs l.prog w K)) F_telling bt C_Alphabet ⟨F_view, PySem.W.mg_of X G a_view, b_view⟩ G_view
  have G__law_same := ok__law_same (P := l.prog) (w := w) (mg := mg) (base := base) (ca := (cnK cls tbs l.prog w K)) ⟨F__law_same, PySem.W.mg_of X G a__law_same, b__law_same⟩ bt
  have G_law := ok_law (P := l.prog) (w := w) (mg := mg) (base := base) (ca := (cnK cls tbs l.prog w K)) F_law bt C_Matrix D_Matrix_happen G_Matrix_happen D_Matrix_known G_Matrix_known ⟨F__law_draws, PySem.W.mg_of X G a__law_draws, b__law_draws⟩ G__law_draws ⟨F__law_alphabet, PySem.W.mg_of X G a__law_alphabet, b__law_alphabet⟩ G__law_alphabet ⟨F__law_take, PySem.W.mg_of X G a__law_take, b__law_take⟩ G__law_take ⟨F__law_same, PySem.W.mg_of X G a__law_same, b__law_same⟩ (G__law_same 8) ⟨F_gathered, PySem.W.mg_of X G a_gathered, b_gathered⟩ G_gathered ⟨F__law_nested, PySem.W.mg_of X G a__law_nested, b__law_nested⟩ G__law_nested ⟨F_nested_count, PySem.W.mg_of X G a_nested_count, b_nested_count⟩ G_nested_count ⟨F_telling, PySem.W.mg_of X G a_telling, b_telling⟩ G_telling ⟨F__law_telling, PySem.W.mg_of X G a__law_telling, b__law_telling⟩ G__law_telling M_Alphabet G_Alphabet___init__ M_Matrix G_Matrix___init__
  exact G_law
theorem walk {l : PySem.W.OpenLaw} {q : Program} {loose : List Str} {XP : (Str → Option Value) → Heap → Prop} {YP : World → Heap → Prop} {d : DefRec} {K : Params → PySem.W.Frag} (hn : l.most = some 63) (hdf : d.params.defaults = []) (hrec : ∀ x ∈ ([] : List Str), ∃ e, (PyProof.Rows.recsOf q).find? (fun r => r.name == x) = some e) (hlaw : ∀ ns : List Int, ns.length ≤ 63 → ∃ h, B_law 0 [.ro ns] (tabs 0) = .ret (.v (.bl true)) h)
    (hY : ∀ (w : World) (h : Heap), YP w h → (K w.params).In h)
    (F : ∀ (w : World) (mg : Str → Option Value) (fa : Addr) (h : Heap), (K w.params).In h → h.Ns mainGlobals mg → mg d.name = some (.ref fa) →
      ∃ (fd : FuncData) (cs : List (Addr × Addr)) (ca : Cn), TabF (K w.params) ca [] cs ∧ (∀ a is, roK (K w.params) a is → ca.ro a is) ∧ (∀ (s : Shared) (u : Value), BindsTo s fd ⟨[u], []⟩ [("script", u)]) ∧ ∀ base : Heap, (K w.params).In base → base.Ns mainGlobals mg → (∀ p ∈ cs, LamX.TabB base mg p.1 p.2) → FnOk l.prog w (K w.params) mg base (L2.CX l.prog w) 10 fa fd ["script"] (spB ca 1 B_law)) :
    PySem.W.WalkO q loose XP YP l.row.toRowW d [] (fun f vs => PySem.call f vs) :=
  walk_tab (n := 63) (k := 10) (x := "script") hn (by decide) hdf ⟨rfl, by decide, by decide⟩ hrec hY hlaw F
end K67
set_option Elab.async false
set_option linter.all false
set_option maxRecDepth 100000
set_option maxHeartbeats 1000000
/-! the law's draws. -/
namespace K67
open PySem PySem.Spec L2 Z
/-- one draw -/
theorem take_eq {h : Own} {d : Nat} {ds : List Int} {n : Nat} (hd : Dr h d ds) (hn : 0 < n) : ∃ (r : Nat) (ds' : List Int), r < n ∧ callB B__law_take [.ref d, .int (n : Int)] h = .ok (.v (nD r)) (h.set d (iL ds')) := by
  have hlt : d < h.length := (List.getElem?_eq_some_iff.mp hd).1
  have hd' : h[d]? = some (.lst (ds.map .int)) := hd
  unfold callB
  rcases List.eq_nil_or_concat ds with rfl | ⟨xs, x, rfl⟩
  · refine ⟨0, [], hn, ?_⟩
    have : B__law_take h.length [.ref d, .int (n : Int)] h = .ret (.v (.int 0)) h := by
      unfold B__law_take body S__law_take
      simp [sSeq, hd']
    rw [this]
    have e2 : h.set d (iL []) = h := by
      apply List.ext_getElem?
      intro i
      rw [List.getElem?_set]
      split
      · rename_i e; subst e; simp [hlt]; exact (Option.some.inj ((List.getElem?_eq_getElem hlt).symm.trans hd)).symm
      · rfl
    rw [e2]
    show exitR h.length (.v (.int 0)) h = _
    unfold exitR
    dsimp only
    rw [if_pos (by rfl), List.take_length]
    rfl
  · have hn' : (0 : Int) < n := by omega
    simp only [List.concat_eq_append] at hd hd'
    have h0 : 0 ≤ x % (n : Int) := Int.emod_nonneg _ (by omega)
    have h1 : x % (n : Int) < n := Int.emod_lt_of_pos _ hn'
    refine ⟨(x % (n : Int)).toNat, xs, by omega, ?_⟩
    have e3 : fPop (.ref d) [] h.length h = .ok (.v (.int x)) (h.set d (.lst (xs.map .int))) := fPop_eq (by rw [hd']; simp) (.inr (nrf_iL xs))
    have : B__law_take h.length [.ref d, .int (n : Int)] h = .ret (.v (.int (x % (n : Int)))) (h.set d (iL xs)) := by
      unfold B__law_take body S__law_take
      have nz : ¬ ((xs.length : Int) + 1 = 0) := by omega
      simp [sSeq, hd', nz, e3, iL, hn]
    rw [this]
    show exitR h.length (.v (.int (x % (n : Int)))) _ = _
    unfold exitR
    dsimp only
    rw [if_pos (by rfl), List.take_of_length_le (by simp)]
    congr 3
    show _ = (((x % (n : Int)).toNat : Nat) : Int)
    omega
theorem Dq_draw {h H : Own} {d n : Nat} (D : Dq h d H) (hn : 0 < n) : ∃ (r : Nat) (H' : Own), r < n ∧ callB B__law_take [.ref d, nD n] H = .ok (.v (nD r)) H' ∧ Dq h d H' ∧ H'.length = H.length ∧ ∀ i, i ≠ d → H'[i]? = H[i]? := by
  obtain ⟨ds, hd⟩ := D.dr
  obtain ⟨r, ds', hr, e⟩ := take_eq hd hn
  refine ⟨r, H.set d (iL ds'), hr, e, ?_, by simp, fun i hi => by rw [List.getElem?_set, if_neg (Ne.symm hi)]⟩
  obtain ⟨ds0, l, rfl⟩ := D.ex
  refine ⟨D.lt, ds', l, ?_⟩
  rw [hp_setl (by simpa using D.lt)]
  simp
section
variable {bb : Nat} {s : Sl} {h : Own}
theorem mixE {a b c d e f m x k : Int} (h4 : s[4]? = some (some (.int m))) (h5 : s[5]? = some (some (.int k))) (h7 : s[7]? = some (some (.int x))) (ha : -(2 ^ 64) < a ∧ a < 2 ^ 64) (hb : 0 < b) (hc : -(2 ^ 64) < c ∧ c < 2 ^ 64) (hd : -(2 ^ 64) < d ∧ d < 2 ^ 64) (hf : 0 < f) :
    ed (e2 fMod (ed (eA fInt (aCons (ed (e2 fAdd (ed (e2 fAdd (ed (e2 fAdd (ed (e2 fMulA (eVar 4) (eC (.int a)))) (ed (e2 fMulA (ed (e2 fMod (ed (eA fInt (aCons (eVar 7) aNil))) (eC (.int b)))) (eC (.int c)))))) (ed (e2 fMulA (eVar 5) (eC (.int d)))))) (eC (.int e)))) aNil))) (eC (.int f))) ⟨bb, s⟩ h = .ok (.int ((m * a + x % b * c + k * d + e) % f)) h := by
  simp [h4, h5, h7, fMulA_r ha, fMulA_r hc, fMulA_r hd, hb, hf]
theorem againE {a f m k : Int} (h4 : s[4]? = some (some (.int m))) (h5 : s[5]? = some (some (.int k))) (hm : -(2 ^ 64) < m ∧ m < 2 ^ 64) (hf : 0 < f) :
    ed (e2 fMod (ed (eA fInt (aCons (ed (e2 fAdd (ed (e2 fAdd (ed (e2 fMulA (eVar 4) (eVar 4))) (ed (e2 fMulA (eC (.int a)) (eVar 4))))) (eVar 5))) aNil))) (eC (.int f))) ⟨bb, s⟩ h = .ok (.int ((m * m + a * m + k) % f)) h := by
  simp [h4, h5, fMulA_r hm, hf]
theorem geE {p q x : Int} (h7 : s[7]? = some (some (.int x))) (hq : 0 ≤ q ∧ q ≤ 1000000 ∧ p.natAbs < 2 ^ 64) : ∃ k, eTB (e2 fGe (eVar 7) (ed (e2 fPow (eC (.int p)) (eC (.int q))))) ⟨bb, s⟩ h = .ok k h := by
  refine ⟨decide (p ^ q.toNat ≤ x), ?_⟩
  simp only [eTB_eq, e2_eq, eVar_eq, h7, Res.bind_ok, ed_eq, eC_eq, fPow_ii]
  rw [if_pos hq]
  rfl
theorem modE {i : Nat} {a x : Int} (hi : s[i]? = some (some (.int x))) (ha : 0 < a) : ed (e2 fMod (ed (eA fInt (aCons (eVar i) aNil))) (eC (.int a))) ⟨bb, s⟩ h = .ok (.int (x % a)) h := by
  simp [hi, ha]
theorem divE {i : Nat} {a x : Int} (hi : s[i]? = some (some (.int x))) (ha : 0 < a ∧ a < 1073741824) : ed (e2 fDiv (eVar i) (eC (.int a))) ⟨bb, s⟩ h = .ok (.int (x / a)) h := by
  simp [hi, ha]
end
inductive DrI (NN : Nat) (h : Own) (sc : Z.D) (c f : Nat) (k : Nat) (s : Sl) (H : Own) : Prop
  | mk (cells found : List Int) (mixed : Int) (hc : h.length ≤ c) (hf : h.length ≤ f) (cf : c ≠ f) (m0 : 0 ≤ mixed) (m1 : mixed < 2147483647) (cn : cells ≠ []) (cl : cells.length ≤ 100) (fl : found.length = k)
    (hs : s = [some sc, some (.int (NN : Int)), some (.ref c), some (.ref f), some (.int mixed), none, none, none, none]) (hC : H[c]? = some (iL cells)) (hF : H[f]? = some (iL found)) (hk : H.take h.length = h)
theorem law_draws_eq {ns : List Int} (NN : Nat) (hN : NN ≤ 1000) (hn : ns.length ≤ 63) (h : Own) : ∃ ds, callB B__law_draws [.ro ns, .int (NN : Int)] h = .ok (.n (iL ds)) h := by
  have main : ∃ (o : O) (h1 : Own), ((∃ ds, o = iL ds) ∧ h1.take h.length = h) ∧ callB B__law_draws [.ro ns, .int (NN : Int)] h = .ok (.n o) (h1.take h.length) := by
    refine call_xr ?_
    unfold B__law_draws body S__law_draws
    have loop : ∀ (c f : Nat) (H : Own), DrI NN h (.ro ns) c f 0 [some (.ro ns), some (.int (NN : Int)), some (.ref c), some (.ref f), some (.int 12345), none, none, none, none] H →
        W (forGo none (tN 5) (sSeq (sSet 6 (ed (e2 fMod (eVar 5) (ed (eA fLen (aCons (eVar 2) aNil))))))
  (sSeq (sSet 7 (ed (e2 fIx (eVar 2) (eVar 6))))
  (sSeq (sSet 4 (ed (e2 fMod (ed (eA fInt (aCons (ed (e2 fAdd (ed (e2 fAdd (ed (e2 fAdd (ed (e2 fMulA (eVar 4) (eC (.int 48271)))) (ed (e2 fMulA (ed (e2 fMod (ed (eA fInt (aCons (eVar 7) aNil))) (eC (.int 1000003)))) (eC (.int 69621)))))) (ed (e2 fMulA (eVar 5) (eC (.int 7919)))))) (eC (.int 11)))) aNil))) (eC (.int 2147483647)))))
  (sSeq (sSet 8 (ed (e2 fMod (ed (eA fInt (aCons (ed (e2 fAdd (ed (e2 fAdd (ed (e2 fMulA (eVar 4) (eVar 4))) (ed (e2 fMulA (eC (.int 31)) (eVar 4))))) (eVar 5))) aNil))) (eC (.int 1000003)))))
  (sIf (eTB (e2 fGe (eVar 7) (ed (e2 fPow (eC (.int 10)) (eC (.int 18)))))) (sSeq (sX (ed (eM "list" fAppend (eVar 3) (aCons (ed (e2 fMod (ed (eA fInt (aCons (eVar 7) aNil))) (eC (.int 1000)))) aNil))))
  (sPut (eVar 2) (eVar 6) (ed (e2 fDiv (eVar 7) (eC (.int 1000)))))) (sX (ed (eM "list" fAppend (eVar 3) (aCons (ed (e2 fMod (ed (eA fInt (aCons (eVar 8) aNil))) (eC (.int 1000)))) aNil))))))))) [5, 6, 7, 8] h.length (rngD 0 NN) [some (.ro ns), some (.int (NN : Int)), some (.ref c), some (.ref f), some (.int 12345), none, none, none, none] H)
          (fun r => ∃ s H', r = .next s H' ∧ DrI NN h (.ro ns) c f NN s H') := by
      intro c f H i0
      refine W_range _ (DrI NN h (.ro ns) c f) i0 ?_ (fun s H i => ⟨_, _, rfl, i⟩)
      rintro k s H hk ⟨cells, found, mixed, hc, hf, cf, m0, m1, cn, cl, fl, rfl, hC, hF, hkp⟩
      refine ⟨_, _, rfl, ?_⟩
      have hpos : 0 < cells.length := List.length_pos_iff.mpr cn
      have ej : ((k : Int) % (cells.length : Int)) = ((k % cells.length : Nat) : Int) := by simp
      have hj : k % cells.length < cells.length := Nat.mod_lt _ hpos
      have hC' : H[c]? = some (.lst (cells.map .int)) := hC
      have hF' : H[f]? = some (.lst (found.map .int)) := hF
      have ix : fIx (.ref c) (.int ((k % cells.length : Nat) : Int)) H = .ok (.v (.int cells[k % cells.length])) H := fIx_q (ds := cells.map .int) (by rw [asQ_ref', hC']) rfl (by rw [List.getElem?_map, List.getElem?_eq_getElem hj]; rfl)
      have hll : found.length < sizeLine := szl (by omega)
      generalize cells[k % cells.length] = cell at *
      generalize k % cells.length = j at *
      simp only [W_seq]
      have st6 : ∀ (sl : Sl), ed (e2 fMod (eVar 5) (ed (eA fLen (aCons (eVar 2) aNil)))) ⟨h.length, [some (.ro ns), some (.int (NN : Int)), some (.ref c), some (.ref f), some (.int mixed), some (.int (k : Int)), none, none, none]⟩ H = .ok (.int (j : Int)) H := fun _ => by
        simp [hC', hpos, ej]
      simp only [W_seq, sSet_eq, sE_eq, tN_eq, st6 [], W_th_next, List.set_cons_succ, List.set_cons_zero]
      have st7 : ed (e2 fIx (eVar 2) (eVar 6)) ⟨h.length, [some (.ro ns), some (.int (NN : Int)), some (.ref c), some (.ref f), some (.int mixed), some (.int (k : Int)), some (.int (j : Int)), none, none]⟩ H = .ok (.int cell) H := by
        simp [ix]
      simp only [W_seq, sSet_eq, sE_eq, st7, W_th_next, List.set_cons_succ, List.set_cons_zero]
      rw [mixE rfl rfl rfl (small64 (by decide) (by decide)) (by decide) (small64 (by decide) (by decide)) (small64 (by decide) (by decide)) (by decide)]
      obtain ⟨M, hM, M0, M1⟩ : ∃ M, (mixed * 48271 + cell % 1000003 * 69621 + (k : Int) * 7919 + 11) % 2147483647 = M ∧ 0 ≤ M ∧ M < 2147483647 := ⟨_, rfl, Int.emod_nonneg _ (by decide), Int.emod_lt_of_pos _ (by decide)⟩
      rw [hM]
      simp only [W_seq, sSet_eq, sE_eq, W_th_next, List.set_cons_succ, List.set_cons_zero]
      rw [againE rfl rfl (small64 (by omega) (by omega)) (by decide)]
      obtain ⟨N, hN⟩ : ∃ N, (M * M + 31 * M + (k : Int)) % 1000003 = N := ⟨_, rfl⟩
      rw [hN]
      simp only [W_th_next, List.set_cons_succ, List.set_cons_zero, sIf_eq, sE_eq]
      obtain ⟨big, hbig⟩ := geE (bb := h.length) (s := [some (.ro ns), some (.int (NN : Int)), some (.ref c), some (.ref f), some (.int M), some (.int (k : Int)), some (.int (j : Int)), some (.int cell), some (.int N)]) (h := H) (p := 10) (q := 18) (x := cell) rfl (by decide)
      rw [hbig]
      cases big with
      | true =>
        have ep : ∀ u v : Int, fPut h.length (.ref c) (.int (j : Int)) (.int v) (H.set f (.lst (found.map .int ++ [.int u]))) = some ((H.set f (.lst (found.map .int ++ [.int u]))).set c (.lst ((cells.map .int).set j (.int v)))) := fun u v => fPut_lst hc (by simpa using hj) (by rw [get_set_ne (Ne.symm cf), hC'])
        simp [hF', hll, putO_own hf, ep]
        refine ⟨cells.set j (cell / 1000), found ++ [cell % 1000], M, hc, hf, cf, by omega, by omega, ?_, by simpa using cl, by simp [fl], rfl, ?_, ?_, ?_⟩
        · intro z
          have := congrArg List.length z
          simp at this
          exact cn this
        · rw [get_set_self (by rw [List.length_set]; exact lt_of_get hC'), iL, List.map_set]
        · rw [get_set_ne cf, get_set_self (lt_of_get hF'), iL]
          simp
        · rw [take_set hc, take_set hf, hkp]
      | false =>
        simp [hF', hll, putO_own hf]
        refine ⟨cells, found ++ [N % 1000], M, hc, hf, cf, by omega, by omega, cn, cl, by simp [fl], rfl, ?_, ?_, ?_⟩
        · rw [get_set_ne (Ne.symm cf), hC]
        · rw [get_set_self (lt_of_get hF'), iL]
          simp
        · rw [take_set hf, hkp]
    have fin : ∀ (s : Sl) (H : Own) (c f : Nat), DrI NN h (.ro ns) c f NN s H → W (sSeq (sX (ed (eM "list" fReverse (eVar 3) aNil))) (sRet (ev (eVar 3))) ⟨h.length, s⟩ H) fun r => ∃ m o h1, r = .ret (.v (.ref m)) h1 ∧ h.length ≤ m ∧ h1[m]? = some o ∧ nrfO o = true ∧ notDead o = true ∧ ((∃ ds, o = iL ds) ∧ h1.take h.length = h) := by
      rintro s H c f ⟨cells, found, mixed, hc, hf, cf, m0, m1, cn, cl, fl, rfl, hC, hF, hkp⟩
      have hF' : H[f]? = some (.lst (found.map .int)) := hF
      have er : fReverse (.ref f) [] h.length H = .ok (.v .non) (H.set f (.lst (found.map .int).reverse)) := by
        unfold fReverse
        exact chL_eq hF' rfl (.inl hf)
      simp [hF', er]
      exact ⟨f, iL found.reverse, _, rfl, hf, by rw [get_set_self (lt_of_get hF'), iL, List.map_reverse], nrf_iL _, rfl, ⟨_, rfl⟩, by rw [take_set hf, hkp]⟩
    have s1 : (1 : Nat) ≤ sizeLine := by decide
    have r300 : R62 (NN : Int) := r62 (by omega)
    simp only [W_seq]
    by_cases hne : ns = []
    · subst hne
      simp [fListS, s1, sz 0, r300]
      refine W_imp (loop (h.length + 1) (h.length + 2) _ ⟨[7], [], 12345, by omega, by omega, by omega, by decide, by decide, by simp, by simp, rfl, rfl, ?_, ?_, ?_⟩) (fun r ⟨s, H', e, i⟩ => by rw [e]; exact fin s H' _ _ i)
      · simp [iL]
      · simp [iL]
      · simp
    · have nz : ¬ ((ns.length : Int) = 0) := by
        have := List.length_pos_iff.mpr hne
        omega
      simp [fListS, s1, sz 0, r300, nz, hne]
      refine W_imp (loop h.length (h.length + 1) _ ⟨ns, [], 12345, by omega, by omega, by omega, by decide, by decide, hne, by omega, rfl, rfl, ?_, ?_, ?_⟩) (fun r ⟨s, H', e, i⟩ => by rw [e]; exact fin s H' _ _ i)
      · simp [iL]
      · simp [iL]
      · simp
  obtain ⟨o, h1, ⟨⟨ds, rfl⟩, hk⟩, e⟩ := main
  exact ⟨ds, by rw [e, hk]⟩
end K67
set_option Elab.async false
set_option linter.all false
set_option maxRecDepth 100000
set_option maxHeartbeats 2000000
/-! letters and alphabets. -/
namespace K67
open PySem PySem.Spec L2 Z
theorem getD_at {w : List Nat} {k : Nat} (h : k < w.length) : w.getD k 0 = w[k] := by
  rw [List.getD_eq_getElem?_getD, List.getElem?_eq_getElem h]; rfl
theorem _root_.Z.Dq.draw {h H : Own} {d n : Nat} (D : Dq h d H) (hn : 0 < n) : ∃ (r : Nat) (H' : Own), r < n ∧ callB B__law_take [.ref d, nD n] H = .ok (.v (nD r)) H' ∧ Dq h d H' ∧ H'.length = H.length ∧ ∀ i, i ≠ d → H'[i]? = H[i]? := Dq_draw D hn
abbrev aD (P : Nat) (L : List (List Nat)) : D := .obj 0 [nD P, .tup (L.map wD)]
/-- the places of a letter -/
def pl (L : List (List Nat)) (a : Nat) : List Nat := L.getD a []
/-- two letters share a place -/
def meet (L : List (List Nat)) (a b : Nat) : Bool := (pl L a).any fun p => has (pl L b) p
theorem pl_of {L : List (List Nat)} {a : Nat} (ha : a < L.length) : L[a]? = some (pl L a) := by
  unfold pl
  rw [List.getElem?_eq_getElem ha, List.getD_eq_getElem?_getD, List.getElem?_eq_getElem ha]; rfl
theorem ix_pl {L : List (List Nat)} {a : Nat} (h : Own) (ha : a < L.length) : fIx (.tup (L.map wD)) (nD a) h = .ok (.v (wD (pl L a))) h := ix_L h (pl_of ha)
theorem ix_pll {L : List (List Nat)} {a : Nat} (h : Own) (ha : a < L.length) : fIx (.lst (L.map wD)) (nD a) h = .ok (.v (wD (pl L a))) h := ix_Ll h (pl_of ha)
theorem independent_eq {P : Nat} {L : List (List Nat)} {a b : Nat} (ha : a < L.length) (hb : b < L.length) (h : Own) : callB B_independent [aD P L, nD a, nD b] h = .ok (.v (.bl (!meet L a b))) h := by
  refine call_v rfl ?_
  unfold B_independent body S_independent
  simp [aD, ix_pl _ ha, wD]
  refine W_list nD (pl L a) (fun k s h1 => s = [some (aD P L), some (nD a), some (nD b), none] ∧ h1 = h ∧ ((pl L a).take k).any (has (pl L b)) = false) ⟨rfl, rfl, rfl⟩ (fun _ _ _ _ _ => by simp) ?_ ?_
  · rintro k s h1 hk ⟨rfl, rfl, e⟩
    refine ⟨_, _, rfl, ?_⟩
    cases q : has (pl L b) (pl L a)[k] with
    | true =>
      have : meet L a b = true := by
        unfold meet
        exact List.any_eq_true.mpr ⟨_, List.getElem_mem hk, q⟩
      simp [aD, ix_pl _ hb, q, this, W, Th]
    | false =>
      simp [aD, ix_pl _ hb, q, clr, any_take_succ _ hk, e]
  · rintro s h1 ⟨rfl, rfl, e⟩
    have : meet L a b = false := by
      rw [List.take_length] at e
      exact e
    simp [Th, this, W]
structure Fine (L : List (List Nat)) : Prop where
  len : L.length ≤ 100
  pos : 0 < L.length
structure Fit (L : List (List Nat)) (w : List Nat) : Prop where
  len : w.length ≤ 1000
  mem : ∀ x ∈ w, x < L.length
theorem Fit.at {L : List (List Nat)} {w : List Nat} (f : Fit L w) {k : Nat} (hk : k < w.length) : w[k] < L.length := f.mem _ (List.getElem_mem hk)
theorem ix_of {L : List (List Nat)} {w : List Nat} {k : Nat} {H : Own} {d : D} (hd : asQ H d = some (w.map nD)) (hk : k < w.length) : fIx d (nD k) H = .ok (.v (nD (w.getD k 0))) H := ix_q _ hd (by rw [getD_at hk, List.getElem?_eq_getElem hk])
theorem map_erase (w : List Nat) (k : Nat) : (w.map nD).eraseIdx k = (w.eraseIdx k).map nD := by
  induction w generalizing k with
  | nil => rfl
  | cons a w ih => cases k with
    | zero => rfl
    | succ k => simp [List.eraseIdx_cons_succ, ih]
theorem Fit.sub {L : List (List Nat)} {w v : List Nat} (f : Fit L w) (hl : v.length ≤ w.length) (hm : ∀ x ∈ v, x ∈ w) : Fit L v := ⟨Nat.le_trans hl f.len, fun x hx => f.mem x (hm x hx)⟩
def lD (L : List (List Nat)) : D := .lst (L.map wD)
@[simp] theorem nrf_lD (L : List (List Nat)) : nrf (lD L) = true := by rw [lD, nrf, nrf_wDs]
theorem law_meet_eq {L : List (List Nat)} {a b : Nat} (hp : ∀ l ∈ L, l.length ≤ 100) (ha : a < L.length) (hb : b < L.length) (h : Own) : callB B__law_meet [lD L, nD a, nD b] h = .ok (.v (.bl (meet L a b))) h := by
  refine call_v rfl ?_
  unfold B__law_meet body S__law_meet
  simp [lD, ix_pll _ ha]
  rw [comp_pure nD (has (pl L b)) (fun _ => D.int 1) (by simp) (pl L a) []]
  · have e : decide (∃ x, x ∈ pl L a ∧ has (pl L b) x = true) = meet L a b := by
      unfold meet
      rw [Bool.eq_iff_iff]
      simp
    simp [e]
    exact ⟨_, rfl, by simp⟩
  · intro p hpp
    refine ⟨_, rfl, ?_, fun _ => by simp⟩
    simp [ix_pll _ hb]
  · have : pl L a ∈ L := by
      have := pl_of ha
      exact List.mem_of_getElem? this
    exact sz _ (by have := hp _ this; simp; omega)
/-- what a drawn letter is -/
structure Lett (P : Nat) (l : List Nat) : Prop where
  ne : l ≠ []
  lt : ∀ x ∈ l, x < P
  so : l.Pairwise (· < ·)
  sh : l.length ≤ 10
structure Alph (P : Nat) (L : List (List Nat)) : Prop where
  p1 : 1 ≤ P
  p2 : P ≤ 4
  l1 : 1 ≤ L.length
  l2 : L.length ≤ 6
  le : ∀ l ∈ L, Lett P l
theorem fSorted_kd {H : Own} {n : Nat} {cs : List Nat} (nd : cs.Nodup) (hl : cs.length ≤ 10) (e : H[n]? = some (.dK (kd cs))) : ∃ l : List Nat, fSorted [.ref n] H = .ok (.n (.lst (l.map nD))) H ∧ l.Perm cs ∧ l.Pairwise (· < ·) := by
  obtain ⟨l, e1, e2, e3⟩ := isort_nat cs nd
  refine ⟨l, ?_, e2, e3⟩
  have k1 : (kd cs).map (·.1) = (cs.map fun c : Nat => (c : Int)).map Sum.inl := by unfold kd; simp
  have hI : fSortI [.ref n] H = .stuck := by
    unfold fSortI asL
    simp [e]
  have hD : fSortD [.ref n] H = .ok (.n (.lst ((isort (cs.map fun c : Nat => (c : Int))).map .int))) H := by
    unfold fSortD asD
    simp only [e, k1, keyI_map]
    rw [if_pos (by simp; omega)]
  show (match fSortI [.ref n] H with | .stuck => fSortD [.ref n] H | z => z) = _
  rw [hI]
  dsimp only
  rw [hD, e1, List.map_map]
  rfl
theorem fPut_kd {H : Own} {b n : Nat} {cs : List Nat} {c : Nat} (hb : b ≤ n) (hl : cs.length ≤ 10) (e : H[n]? = some (.dK (kd cs))) : fPut b (.ref n) (nD c) (.bl true) H = some (H.set n (.dK (kd (if c ∈ cs then cs else cs ++ [c])))) := by
  unfold fPut
  simp only [e, asK_int]
  have hk : (kd cs).length < sizeLine := by unfold kd; rw [List.length_map]; exact szl (by omega)
  rw [if_pos hk, putO_own hb, putD_kd]
/-- the outer loop of _law_alphabet -/
inductive AlI (h : Own) (d P : Nat) (k : Nat) (s : Sl) (H : Own) : Prop
  | mk (L : List (List Nat)) (D : Dq h d H) (len : L.length = k) (le : ∀ l ∈ L, Lett P l) (hs : s = [some (.ref d), some (.int 4), some (.int 6), some (nD P), some (.ref h.length), none, none, none]) (hH : H[h.length]? = some (.lst (L.map wD)))
/-- the inner loop -/
inductive AlJ (h : Own) (d P k n : Nat) (L : List (List Nat)) (j : Nat) (s : Sl) (H : Own) : Prop
  | mk (cs : List Nat) (D : Dq h d H) (hn : h.length < n) (len : cs.length ≤ j + 1) (ne : cs ≠ []) (nd : cs.Nodup) (lt : ∀ x ∈ cs, x < P) (hs : s = [some (.ref d), some (.int 4), some (.int 6), some (nD P), some (.ref h.length), some (nD k), some (.ref n), none])
    (hH : H[h.length]? = some (.lst (L.map wD))) (hC : H[n]? = some (.dK (kd cs)))
theorem law_alphabet_eq {h : Own} {d : Nat} {ds : List Int} (hd : Dr h d ds) : ∃ P L ds', Alph P L ∧ callB B__law_alphabet [.ref d, .int 4, .int 6] h = .ok (.v (.tup [nD P, lD L])) (h.set d (iL ds')) := by
  have main : ∃ dd h1, (∃ P L, dd = .tup [nD P, lD L] ∧ Alph P L ∧ Dq h d h1) ∧ callB B__law_alphabet [.ref d, .int 4, .int 6] h = .ok (.v dd) (h1.take h.length) := by
    refine call_x ?_
    have dlt : d < h.length := lt_of_get hd
    obtain ⟨r, H1, hr, e1, D1, l1, k1⟩ := (Dq.refl hd).draw (n := 4) (by decide)
    have e1' : callB B__law_take [.ref d, .int 4] h = .ok (.v (nD r)) H1 := e1
    obtain ⟨P, hP, hP2⟩ : ∃ P : Nat, (1 + (r : Int)) = (P : Int) ∧ P = r + 1 := ⟨r + 1, by omega, rfl⟩
    obtain ⟨r2, H2, hr2, e2, D2, l2, k2⟩ := (D1.push (.lst [])).draw (n := 6) (by decide)
    have e2' : callB B__law_take [.ref d, .int 6] (H1 ++ [.lst []]) = .ok (.v (nD r2)) H2 := e2
    have en : ((1 : Int) + (r2 : Int)).toNat = r2 + 1 := by omega
    have er : R62 (1 + (r2 : Int)) := r62i (by omega) (by omega)
    unfold B__law_alphabet body S__law_alphabet
    simp only [W_seq]
    simp [e1', hP, l1, sz 0, e2', en, er]
    have hHL : H2[h.length]? = some (.lst (([] : List (List Nat)).map wD)) := by
      rw [k2 _ (by omega), ← l1]
      simp
    refine W_range _ (AlI h d P) ⟨[], D2, rfl, (fun l hl => by cases hl), rfl, hHL⟩ ?_ ?_
    · rintro k s H hk ⟨L, D, hlen, hle, rfl, hH⟩
      refine ⟨_, _, rfl, ?_⟩
      have hPpos : 0 < P := by omega
      obtain ⟨c, H3, hc, e3, D3, l3, k3⟩ := D.draw hPpos
      obtain ⟨r4, H4, hr4, e4, D4, l4, k4⟩ := (D3.push (.dK (kd [c]))).draw (n := 3) (by decide)
      have e4' : callB B__law_take [.ref d, .int 3] (H3 ++ [.dK (kd [c])]) = .ok (.v (nD r4)) H4 := e4
      have em : mergeD [] [((Sum.inl (c : Int) : Key), Z.D.bl true)] = kd [c] := rfl
      simp only [W_seq]
      simp [e3, em, e4', r62 (show r4 ≤ 1000000 by omega)]
      have hlt : h.length < H3.length := by rw [l3]; exact lt_of_get hH
      have hdn : H3.length ≠ d := by have := D3.le; omega
      refine W_range _ (AlJ h d P k H3.length L) ⟨[c], D4, hlt, by simp, by simp, by simp, by simpa using hc, rfl, ?_, ?_⟩ ?_ ?_
      · rw [k4 _ (by omega)]
        apply get_push
        rw [k3 _ (by omega), hH]
      · rw [k4 _ hdn]
        simp
      · rintro j s H hj ⟨cs, D5, hn, lcs, necs, ndcs, ltcs, rfl, hH5, hC5⟩
        refine ⟨_, _, rfl, ?_⟩
        obtain ⟨c2, H6, hc2, e6, D6, l6, k6⟩ := D5.draw hPpos
        have hC6 : H6[H3.length]? = some (.dK (kd cs)) := by rw [k6 _ hdn, hC5]
        have hH6 : H6[h.length]? = some (.lst (L.map wD)) := by rw [k6 _ (by omega), hH5]
        have ep := fPut_kd (c := c2) (b := h.length) (by omega) (by omega) hC6
        simp [e6, ep]
        refine ⟨if c2 ∈ cs then cs else cs ++ [c2], D6.set (by omega) _, hn, ?_, ?_, ?_, ?_, rfl, ?_, get_set_self (lt_of_get hC6)⟩
        · split
          · omega
          · simp; omega
        · split
          · exact necs
          · simp
        · split
          · exact ndcs
          · rename_i hnot
            rw [List.nodup_append]
            refine ⟨ndcs, by simp, ?_⟩
            intro a ha b hb e
            rw [List.mem_singleton] at hb
            subst hb
            subst e
            exact hnot ha
        · intro x hx
          split at hx
          · exact ltcs x hx
          · rcases List.mem_append.mp hx with hx | hx
            · exact ltcs x hx
            · rw [List.mem_singleton] at hx; subst hx; exact hc2
        · rw [get_set_ne (by omega), hH6]
      · rintro s H ⟨cs, D5, hn, lcs, necs, ndcs, ltcs, rfl, hH5, hC5⟩
        obtain ⟨l, es, hp, hso⟩ := fSorted_kd ndcs (by omega) hC5
        have hll : L.length < sizeLine := szl (by omega)
        simp [es, hH5, hll, putO_own (Nat.le_refl _)]
        refine ⟨L ++ [l], D5.set (Nat.le_refl _) _, by simp [hlen], ?_, rfl, ?_⟩
        · intro z hz
          rcases List.mem_append.mp hz with hz | hz
          · exact hle z hz
          · rw [List.mem_singleton] at hz
            subst hz
            refine ⟨?_, fun x hx => ltcs x (hp.mem_iff.mp hx), hso, by rw [hp.length_eq]; omega⟩
            rintro rfl
            exact necs (List.nil_perm.mp hp)
        · rw [get_set_self (lt_of_get hH5)]
          simp
    · rintro s H ⟨L, D, hlen, hle, rfl, hH⟩
      have s2 : (2 : Nat) ≤ sizeLine := by decide
      simp [hH, s2]
      refine ⟨.tup [nD P, lD L], _, rfl, by simp [nrf, nrfs], P, L, rfl, ⟨by omega, by omega, by omega, by omega, hle⟩, D.set (Nat.le_refl _) _⟩
  obtain ⟨dd, h1, ⟨P, L, rfl, hA, D⟩, e⟩ := main
  obtain ⟨ds', ec⟩ := D.cut
  exact ⟨P, L, ds', hA, by rw [e, ec]⟩
theorem fits_eq {P : Nat} {l : List Nat} (hl : Lett P l) (h : Own) : callB B_fits [wD l, nD P] h = .ok (.v (.bl true)) h := by
  refine call_v rfl ?_
  have h0 := hl.sh
  have hne : l ≠ [] := hl.ne
  have nz : ¬ ((l.length : Int) = 0) := by
    have := List.length_pos_iff.mpr hne
    omega
  unfold B_fits body S_fits
  simp only [W_seq]
  simp [hne, r62 (show l.length ≤ 1000000 by omega)]
  refine W_range _ (fun k s h1 => s = [some (wD l), some (nD P), none] ∧ h1 = h) ⟨rfl, rfl⟩ ?_ ?_
  · rintro k s h1 hk ⟨rfl, rfl⟩
    refine ⟨_, _, rfl, ?_⟩
    have i1 : fIx (wD l) (nD k) h1 = _ := ix_of (L := []) (w := l) rfl hk
    have g1 : l.getD k 0 = l[k] := getD_at hk
    have hP := hl.lt _ (List.getElem_mem hk)
    rw [g1] at i1
    have n1 : ¬ ((l[k] : Int) < 0) := by omega
    have n2 : ¬ (P ≤ l[k]) := by omega
    by_cases k0 : k = 0
    · subst k0
      have i0 : fIx (wD l) (.int 0) h1 = .ok (.v (nD l[0])) h1 := i1
      generalize l[0] = y at *
      simp [i0, n1, n2]
    · have hk' : k - 1 < l.length := by omega
      have i2 : fIx (wD l) (nD (k - 1)) h1 = _ := ix_of (L := []) (w := l) rfl hk'
      have g2 : l.getD (k - 1) 0 = l[k - 1] := getD_at hk'
      rw [g2] at i2
      have ek : ((k : Int) - 1) = ((k - 1 : Nat) : Int) := by omega
      have hlt : l[k - 1] < l[k] := List.pairwise_iff_getElem.mp hl.so (k - 1) k hk' hk (by omega)
      have n3 : ¬ (l[k] ≤ l[k - 1]) := by omega
      have kp : 0 < k := by omega
      generalize l[k] = y at *
      generalize l[k - 1] = x at *
      simp [i1, n1, n2, ek, i2, n3, kp]
  · rintro s h1 ⟨rfl, rfl⟩
    simp
    exact ⟨_, rfl, by simp⟩
@[simp] theorem sAtt_eq {cs : List Nat} {i : Nat} {o x : ED} {τ : Fm} {h : Own} : sAtt cs i o x τ h = sE x (fun v τ h => sE o (fun d τ h => match fAtt cs i τ.b d v h with
  | some h1 => .next τ.s h1
  | none => .stuck) τ h) τ h := by
  unfold sAtt
  rfl
theorem init_eq {P : Nat} {L : List (List Nat)} (A : Alph P L) (h : Own) : ∃ s, B_Alphabet___init__ h.length [.ref h.length, nD P, lD L] (h ++ [.ins 0 []]) = .next s (h ++ [.ins 0 [nD P, .tup (L.map wD)]]) := by
  have main : W (B_Alphabet___init__ h.length [.ref h.length, nD P, lD L] (h ++ [.ins 0 []])) fun r => ∃ s, r = .next s (h ++ [.ins 0 [nD P, .tup (L.map wD)]]) := by
    have h1 := A.p1
    have h2 := A.p2
    have h3 := A.l1
    have h4 := A.l2
    unfold B_Alphabet___init__ body S_Alphabet___init__
    simp only [W_seq]
    simp [lD, show (1 : Int) ≤ P by omega, show (P : Int) ≤ 4 by omega, show (1 : Int) ≤ L.length by omega, show (L.length : Int) ≤ 6 by omega, show P ≤ 4 by omega, show 1 ≤ P by omega, show L.length ≤ 6 by omega, show 1 ≤ L.length by omega]
    refine W_list wD L (fun k s h1 => ∃ y, s = [some (.ref h.length), some (nD P), some (lD L), some (.bl true), y] ∧ h1 = h ++ [.ins 0 []]) ⟨_, rfl, rfl⟩ (fun _ _ _ _ _ => by simp) ?_ ?_
    · rintro k s h1 hk ⟨y, rfl, rfl⟩
      refine ⟨_, _, rfl, ?_⟩
      have c1 := fits_eq (A.le _ (List.getElem_mem hk)) (h ++ [.ins 0 []])
      simp [c1]
    · rintro s h1 ⟨y, rfl, rfl⟩
      simp only [Th_next, W_seq]
      have e1 : (h ++ [O.ins 0 []])[h.length]? = some (.ins 0 []) := by simp
      simp [fAtt, attD, lD]
      rw [comp_pure wD (fun _ => true) wD (by simp) L []]
      · have c4 : (L.filter fun _ => true) = L := by simp
        rw [c4]
        simp [fAtt, attD, W]
      · intro l hl
        refine ⟨_, rfl, ?_, ?_⟩
        · simp
        · intro _
          simp
      · exact sz _ (by simp; omega)
  exact main
/-- Alphabet(places, letters) -/
theorem mk_eq {P : Nat} {L : List (List Nat)} (A : Alph P L) {xs : EA} {τ : Fm} {h : Own} (hx : xs τ h = .ok [nD P, lD L] h) : eMk 0 3 B_Alphabet___init__ xs τ h = .ok (.n (.ins 0 [nD P, .tup (L.map wD)])) h := by
  obtain ⟨s, e⟩ := init_eq A h
  unfold eMk
  rw [hx]
  simp [e, nrf, nrfs]
end K67
set_option Elab.async false
set_option linter.all false
set_option maxRecDepth 100000
/-! V2: the kept ones by their places in the word. -/
namespace NV
section
variable {m : Nat → Nat → Bool}
/-- the indices of what is kept; the word's first has index o -/
def ixs (m : Nat → Nat → Bool) : List Nat → (Nat → Bool) → Nat → List Nat
  | [], _, _ => []
  | x :: w, P, o => if hk m x w P = true then o :: ixs m w P (o + 1) else ixs m w P (o + 1)
theorem ixs_ge {w : List Nat} {P : Nat → Bool} {o : Nat} : ∀ i ∈ ixs m w P o, o ≤ i ∧ i < o + w.length := by
  induction w generalizing o with
  | nil => intro i hi; cases hi
  | cons a w ih =>
    intro i hi
    rw [ixs] at hi
    rw [List.length_cons]
    split at hi
    · rcases List.mem_cons.mp hi with rfl | hi
      · omega
      · have := ih i hi; omega
    · have := ih i hi; omega
theorem ixs_sort (w : List Nat) (P : Nat → Bool) (o : Nat) : (ixs m w P o).Pairwise (· < ·) := by
  induction w generalizing o with
  | nil => exact .nil
  | cons a w ih =>
    rw [ixs]
    split
    · refine List.pairwise_cons.mpr ⟨fun i hi => ?_, ih _⟩
      have := ixs_ge i hi
      omega
    · exact ih _
theorem ixs_map (pre w : List Nat) (P : Nat → Bool) : (ixs m w P pre.length).map (fun i => (pre ++ w).getD i 0) = G m w P := by
  induction w generalizing pre with
  | nil => rfl
  | cons a w ih =>
    have e := ih (pre ++ [a])
    rw [List.length_append, List.length_singleton, List.append_assoc, List.singleton_append] at e
    rw [ixs, G_cons]
    split
    · rw [List.map_cons, e]
      congr 1
      simp
    · exact e
theorem ixs_drop {w : List Nat} {P : Nat → Bool} {k : Nat} (hk' : k < w.length) : ixs m (w.drop k) P k = if hk m w[k] (w.drop (k + 1)) P = true then k :: ixs m (w.drop (k + 1)) P (k + 1) else ixs m (w.drop (k + 1)) P (k + 1) := by
  rw [List.drop_eq_getElem_cons hk', ixs]
theorem ixs_drop_map (w : List Nat) (P : Nat → Bool) {k : Nat} (hk' : k ≤ w.length) : (ixs m (w.drop k) P k).map (fun i => w.getD i 0) = G m (w.drop k) P := by
  have := ixs_map (m := m) (w.take k) (w.drop k) P
  rw [List.take_append_drop, List.length_take, Nat.min_eq_left hk'] at this
  exact this
/-- one more from the left -/
theorem hk_drop {w : List Nat} {P : Nat → Bool} {k : Nat} (hk' : k < w.length) : hk m w[k] (w.drop (k + 1)) P = (P w[k] || (ixs m (w.drop (k + 1)) P (k + 1)).any fun i => m w[k] (w.getD i 0)) := by
  unfold hk
  rw [← ixs_drop_map w P (by omega : k + 1 ≤ w.length), List.any_map]
  rfl
/-- the indices of a word's view -/
def vx (m : Nat → Nat → Bool) (w : List Nat) (P : Nat → Bool) : List Nat := ixs m w P 0
theorem vx_map (w : List Nat) (P : Nat → Bool) : (vx m w P).map (fun i => w.getD i 0) = G m w P := by
  have := ixs_drop_map (m := m) w P (Nat.zero_le _)
  rw [List.drop_zero] at this
  exact this
theorem vx_sort (w : List Nat) (P : Nat → Bool) : (vx m w P).Pairwise (· < ·) := ixs_sort _ _ _
theorem vx_lt {w : List Nat} {P : Nat → Bool} : ∀ i ∈ vx m w P, i < w.length := fun i hi => by have := ixs_ge i hi; omega
theorem pair_nodup {l : List Nat} (h : l.Pairwise (· < ·)) : l.Nodup := h.imp fun h => by omega
theorem vx_len {w : List Nat} {P : Nat → Bool} : (vx m w P).length ≤ w.length := by
  have e := congrArg List.length (vx_map (m := m) w P)
  rw [List.length_map] at e
  rw [e]
  exact G_len
theorem ixs_mem {w : List Nat} {P : Nat → Bool} {o k : Nat} (hk' : k < w.length) : o + k ∈ ixs m w P o ↔ hk m w[k] (w.drop (k + 1)) P = true := by
  induction w generalizing o k with
  | nil => cases hk'
  | cons a w ih =>
    rw [ixs]
    cases k with
    | zero =>
      have no : o + 0 ∉ ixs m w P (o + 1) := fun z => by have := ixs_ge _ z; omega
      split
      · rename_i h
        simp [h]
      · rename_i h
        exact ⟨fun z => absurd z no, fun z => absurd (by simpa using z) h⟩
    | succ k =>
      rw [List.length_cons] at hk'
      have e := ih (o := o + 1) (k := k) (by omega)
      have a1 : o + 1 + k = o + (k + 1) := by omega
      rw [a1] at e
      rw [List.getElem_cons_succ, List.drop_succ_cons, ← e]
      split
      · constructor
        · intro z
          rcases List.mem_cons.mp z with z | z
          · omega
          · exact z
        · exact List.mem_cons_of_mem _
      · rfl
theorem vx_mem {w : List Nat} {P : Nat → Bool} {k : Nat} (hk' : k < w.length) : k ∈ vx m w P ↔ hk m w[k] (w.drop (k + 1)) P = true := by
  have := ixs_mem (m := m) (P := P) (o := 0) hk'
  rw [Nat.zero_add] at this
  exact this
/-- what is kept of the last n, from the right -/
def dxs (m : Nat → Nat → Bool) (w : List Nat) (P : Nat → Bool) (n : Nat) : List Nat := (ixs m (w.drop (w.length - n)) P (w.length - n)).reverse
theorem dxs_zero (w : List Nat) (P : Nat → Bool) : dxs m w P 0 = [] := by
  unfold dxs
  rw [Nat.sub_zero, List.drop_length]
  rfl
theorem dxs_all (w : List Nat) (P : Nat → Bool) : dxs m w P w.length = (vx m w P).reverse := by
  unfold dxs vx
  rw [Nat.sub_self, List.drop_zero]
theorem dxs_mem {w : List Nat} {P : Nat → Bool} {n : Nat} (hn : n ≤ w.length) : ∀ i ∈ dxs m w P n, w.length - n ≤ i ∧ i < w.length := fun i hi => by
  have := ixs_ge i (List.mem_reverse.mp hi)
  rw [List.length_drop] at this
  omega
theorem dxs_len {w : List Nat} {P : Nat → Bool} {n : Nat} : (dxs m w P n).length ≤ w.length := by
  unfold dxs
  rw [List.length_reverse]
  have e := congrArg List.length (ixs_drop_map (m := m) w P (Nat.sub_le w.length n))
  rw [List.length_map] at e
  rw [e]
  exact Nat.le_trans G_len (by rw [List.length_drop]; omega)
theorem dxs_nodup (w : List Nat) (P : Nat → Bool) (n : Nat) : (dxs m w P n).Nodup := List.pairwise_reverse.mpr ((ixs_sort _ _ _).imp fun h => by omega)
theorem dxs_succ {w : List Nat} {P : Nat → Bool} {n : Nat} (hn : n < w.length) : dxs m w P (n + 1) = if (P (w.getD (w.length - 1 - n) 0) || (dxs m w P n).any fun i => m (w.getD (w.length - 1 - n) 0) (w.getD i 0)) = true then dxs m w P n ++ [w.length - 1 - n] else dxs m w P n := by
  unfold dxs
  have e1 : w.length - (n + 1) = w.length - 1 - n := by omega
  have e2 : w.length - n = w.length - 1 - n + 1 := by omega
  have hk' : w.length - 1 - n < w.length := by omega
  rw [e1, e2, ixs_drop hk', hk_drop hk', List.any_reverse]
  have g : w.getD (w.length - 1 - n) 0 = w[w.length - 1 - n] := by
    rw [List.getD_eq_getElem?_getD, List.getElem?_eq_getElem hk']; rfl
  rw [g]
  split
  · rw [List.reverse_cons]
  · rfl
end
end NV
set_option Elab.async false
set_option linter.all false
set_option maxRecDepth 100000
set_option maxHeartbeats 2000000
/-! views: the code's and the law's. -/
namespace K67
open PySem PySem.Spec L2 Z NV
/-- which letters are at a place -/
def at' (L : List (List Nat)) (p : Nat) : Nat → Bool := fun x => has (pl L x) p
/-- where letters of a place stand -/
def evs (L : List (List Nat)) (w : List Nat) (p : Nat) : List Nat := (List.range w.length).filter fun k => has (pl L (w.getD k 0)) p
theorem evs_has {L : List (List Nat)} {w : List Nat} {p k : Nat} (hk : k < w.length) : has (evs L w p) k = at' L p (w.getD k 0) := by
  rw [Bool.eq_iff_iff, has_iff]
  unfold evs at'
  rw [List.mem_filter, List.mem_range]
  exact ⟨fun z => z.2, fun z => ⟨hk, z⟩⟩
theorem events_eq {P : Nat} {L : List (List Nat)} {w : List Nat} {p : Nat} (fw : Fit L w) (h : Own) : callB B_events_at [aD P L, wD w, nD p] h = .ok (.n (.lst ((evs L w p).map nD))) h := by
  have hl := fw.len
  refine call_n (by rw [nrfO, nrf_nDs]) ?_
  unfold B_events_at body S_events_at
  simp [r62 (show w.length ≤ 1000000 by omega)]
  rw [comp_range (fun k => has (pl L (w.getD k 0)) p) nD w.length]
  · simp [evs]
    exact ⟨_, rfl, by simp⟩
  · intro k hk
    refine ⟨_, rfl, ?_, fun _ => by simp⟩
    have i1 : fIx (wD w) (nD k) h = _ := ix_of (L := L) (w := w) rfl hk
    have i2 := ix_pl (L := L) (a := w.getD k 0) h (by rw [getD_at hk]; exact fw.at hk)
    generalize w.getD k 0 = a at *
    simp [i1, i2]
  · exact sz _ (by omega)
@[simp] theorem fRevL_ref {n : Nat} {H : Own} : fRevL (.ref n) H = (match H[n]? with
    | some (.lst ds) => .ok (.n (.lst ds.reverse)) H
    | _ => .stuck) := by
  unfold fRevL
  rw [asL_ref']
  cases H[n]? with
  | none => rfl
  | some o => cases o <;> rfl
theorem below_all_eq {P : Nat} {L : List (List Nat)} {w ev : List Nat} {Pr : Nat → Bool} (fw : Fit L w) (hev : ∀ k, k < w.length → has ev k = Pr (w.getD k 0)) (h : Own) :
    callB B_below_all [aD P L, wD w, .lst (ev.map nD)] h = .ok (.n (.lst ((vx (meet L) w Pr).map nD))) h := by
  have hl := fw.len
  refine call_n (by rw [nrfO, nrf_nDs]) ?_
  unfold B_below_all body S_below_all
  simp only [W_seq]
  have er : R62 ((w.length : Int) - 1) := r62i (by omega) (by omega)
  have er2 : R62 (-1) := r62i (by omega) (by omega)
  have e1 : ((w.length : Int) - 1 - -1).toNat = w.length := by omega
  simp [sz 0, er, er2, e1, downD_eq]
  refine W_list (fun k : Nat => Z.D.int ((w.length - 1 - k : Nat) : Int)) (List.range w.length) (fun n s h1 => s = [some (aD P L), some (wD w), some (.lst (ev.map nD)), some (.ref h.length), none, none, none] ∧ h1 = h ++ [.lst ((dxs (meet L) w Pr n).map nD)]) ⟨rfl, by rw [dxs_zero]; rfl⟩ (fun _ _ _ _ _ => by simp) ?_ ?_
  · rintro n s h1 hn ⟨rfl, rfl⟩
    have hn' : n < w.length := by simpa using hn
    have hr : (List.range w.length)[n] = n := List.getElem_range _
    rw [hr]
    refine ⟨_, _, rfl, ?_⟩
    have hk : w.length - 1 - n < w.length := by omega
    generalize hkk : w.length - 1 - n = k at hk
    have ein : fIn (nD k) (.lst (ev.map nD)) (h ++ [.lst ((dxs (meet L) w Pr n).map nD)]) = .ok (.v (.bl (has ev k))) _ := fIn_q' k _ rfl
    have hf : ∀ i ∈ dxs (meet L) w Pr n, k < i ∧ i < w.length := fun i hi => by have := dxs_mem (by omega : n ≤ w.length) i hi; omega
    have hfl := dxs_len (m := meet L) (w := w) (P := Pr) (n := n)
    have hnext := dxs_succ (m := meet L) (P := Pr) hn'
    rw [hkk, ← hev k hk] at hnext
    generalize dxs (meet L) w Pr (n + 1) = nx at *
    generalize dxs (meet L) w Pr n = f at *
    simp only [W_seq]
    simp [ein]
    refine W_list nD f (fun j s h1 => s = [some (aD P L), some (wD w), some (.lst (ev.map nD)), some (.ref h.length), some (nD k), some (.bl (has ev k || (f.take j).any fun s => decide (k < s) && meet L (w.getD k 0) (w.getD s 0))), none] ∧ h1 = h ++ [.lst (f.map nD)]) ⟨by simp, rfl⟩ (fun j s h1 _ ⟨_, e⟩ => by rw [e]; intro n' o' z; cases z; simp) ?_ ?_
    · rintro j s h1 hj ⟨rfl, rfl⟩
      refine ⟨_, _, rfl, ?_⟩
      have hs := (hf _ (List.getElem_mem hj)).2
      rw [any_take_succ _ hj]
      generalize f[j] = s at hs
      have i1 : fIx (wD w) (nD k) (h ++ [.lst (f.map nD)]) = _ := ix_of (L := L) (w := w) rfl hk
      have i2 : fIx (wD w) (nD s) (h ++ [.lst (f.map nD)]) = _ := ix_of (L := L) (w := w) rfl hs
      have c1 := independent_eq (P := P) (L := L) (a := w.getD k 0) (b := w.getD s 0) (by rw [getD_at hk]; exact fw.at hk) (by rw [getD_at hs]; exact fw.at hs) (h ++ [.lst (f.map nD)])
      generalize w.getD k 0 = a at *
      generalize w.getD s 0 = b at *
      cases q1 : has ev k <;> cases q2 : ((f.take j).any fun s => decide (k < s) && meet L a (w.getD s 0)) <;> by_cases q3 : k < s <;> simp [q2, q3, i1, i2, c1]
    · rintro s h1 ⟨rfl, rfl⟩
      rw [List.take_length]
      have eq1 : (f.any fun s => decide (k < s) && meet L (w.getD k 0) (w.getD s 0)) = f.any fun s => meet L (w.getD k 0) (w.getD s 0) := by
        rw [Bool.eq_iff_iff, List.any_eq_true, List.any_eq_true]
        constructor
        · rintro ⟨s, hs, e⟩
          rw [Bool.and_eq_true] at e
          exact ⟨s, hs, e.2⟩
        · rintro ⟨s, hs, e⟩
          exact ⟨s, hs, by rw [Bool.and_eq_true]; exact ⟨decide_eq_true (hf s hs).1, e⟩⟩
      rw [eq1, hnext]
      generalize (has ev k || f.any fun s => meet L (w.getD k 0) (w.getD s 0)) = q
      cases q with
      | true => simp [szl (show f.length ≤ 1000000 by omega)]
      | false => simp
  · rintro s h1 ⟨rfl, rfl⟩
    rw [List.length_range, dxs_all]
    simp
    exact ⟨_, rfl, by simp⟩
/-- a word's view: the indices -/
abbrev vi (L : List (List Nat)) (w : List Nat) (p : Nat) : List Nat := vx (meet L) w (at' L p)
theorem view_eq {P : Nat} {L : List (List Nat)} {w : List Nat} {p : Nat} (fw : Fit L w) (h : Own) : callB B_view [aD P L, wD w, nD p] h = .ok (.n (.lst ((vi L w p).map nD))) h := by
  refine call_n (by rw [nrfO, nrf_nDs]) ?_
  unfold B_view body S_view
  have c1 := events_eq (P := P) (p := p) fw h
  have c2 := below_all_eq (P := P) (ev := evs L w p) (Pr := at' L p) fw (fun k hk => evs_has hk) h
  simp [c1, c2]
  exact ⟨_, rfl, by simp⟩
/-- what the law counts: those that are kept and meet the letter at k -/
theorem cnt_eq {L : List (List Nat)} {w gs : List Nat} {k p ng b : Nat} {H : Own} (hp : ∀ l ∈ L, l.length ≤ 100) (fw : Fit L w) (hk : k < w.length) (hg : ∀ j ∈ gs, k < j ∧ j < w.length) (hl : gs.length ≤ 1000)
    (hb : b ≤ ng) (hG : H[ng]? = some (.dK (kd gs))) :
    eLk 3 (eComp (iKey (eVar 3)) (tN 5) (bAnd (eTB (e2 fGt (eVar 5) (eVar 4))) (eT (ed (eCall 3 B__law_meet (aCons (eVar 0) (aCons (ed (e2 fIx (eVar 1) (eVar 4))) (aCons (ed (e2 fIx (eVar 1) (eVar 5))) aNil))))))) (eC (.int 1)) [5]) ⟨b, [some (lD L), some (wD w), some (nD p), some (.ref ng), some (nD k), none]⟩ H
      = .ok (.n (.lst ((gs.filter fun j => meet L (w.getD k 0) (w.getD j 0)).map fun _ => Z.D.int 1))) H := by
  have hlt := lt_of_get hG
  have hLk : (H.set ng (.lkK (kd gs)))[ng]? = some (.lkK (kd gs)) := get_set_self hlt
  have e0 : lkAt ⟨b, [some (lD L), some (wD w), some (nD p), some (.ref ng), some (nD k), none]⟩ 3 H = some (ng, .dK (kd gs), H.set ng (.lkK (kd gs))) := by
    unfold lkAt
    simp [hG, lockO, hb]
  have e1 : eComp (iKey (eVar 3)) (tN 5) (bAnd (eTB (e2 fGt (eVar 5) (eVar 4))) (eT (ed (eCall 3 B__law_meet (aCons (eVar 0) (aCons (ed (e2 fIx (eVar 1) (eVar 4))) (aCons (ed (e2 fIx (eVar 1) (eVar 5))) aNil))))))) (eC (.int 1)) [5] ⟨b, [some (lD L), some (wD w), some (nD p), some (.ref ng), some (nD k), none]⟩ (H.set ng (.lkK (kd gs)))
      = .ok (.n (.lst ([] ++ (gs.filter fun j => meet L (w.getD k 0) (w.getD j 0)).map fun _ => Z.D.int 1))) (H.set ng (.lkK (kd gs))) := by
    have hv : ([some (lD L), some (wD w), some (nD p), some (.ref ng), some (nD k), none] : Sl)[3]? = some (some (.ref ng)) := rfl
    simp only [eComp_eq, iKey_eq, eVar_eq, hv, Res.bind_ok, hLk, items_kd]
    refine comp_pure nD (fun j => meet L (w.getD k 0) (w.getD j 0)) (fun _ => .int 1) (by intro n o z; cases z; exact hLk) gs [] ?_ (sz _ (by simp; omega))
    intro j hj
    have hjl := (hg j hj).2
    have hgt := (hg j hj).1
    have i1 : fIx (wD w) (nD j) (H.set ng (.lkK (kd gs))) = _ := ix_of (L := L) (w := w) rfl hjl
    have i2 : fIx (wD w) (nD k) (H.set ng (.lkK (kd gs))) = _ := ix_of (L := L) (w := w) rfl hk
    have c1 := law_meet_eq hp (a := w.getD k 0) (b := w.getD j 0) (by rw [getD_at hk]; exact fw.at hk) (by rw [getD_at hjl]; exact fw.at hjl) (H.set ng (.lkK (kd gs)))
    generalize w.getD j 0 = x at *
    generalize w.getD k 0 = y at *
    refine ⟨_, rfl, ?_, fun _ => by simp⟩
    simp [hgt, i1, i2, c1]
  unfold eLk
  rw [e0]
  dsimp only
  rw [e1]
  simp
  exact set_self hG
theorem law_view_eq {L : List (List Nat)} {w : List Nat} {p : Nat} (hp : ∀ l ∈ L, l.length ≤ 100) (fw : Fit L w) (hl : w.length ≤ 60) (h : Own) : callB B__law_view [lD L, wD w, nD p] h = .ok (.n (.lst ((vi L w p).map nD))) h := by
  refine call_n (by rw [nrfO, nrf_nDs]) ?_
  unfold B__law_view body S__law_view
  simp only [W_seq]
  have er : R62 ((w.length : Int) - 1) := r62i (by omega) (by omega)
  have er2 : R62 (-1) := r62i (by omega) (by omega)
  have e1 : ((w.length : Int) - 1 - -1).toNat = w.length := by omega
  simp [sz 0, er, er2, e1, downD_eq]
  refine W_list (fun k : Nat => Z.D.int ((w.length - 1 - k : Nat) : Int)) (List.range w.length) (fun n s h1 => s = [some (lD L), some (wD w), some (nD p), some (.ref h.length), none, none] ∧ h1 = h ++ [.dK (kd (dxs (meet L) w (at' L p) n))]) ⟨rfl, by rw [dxs_zero]; rfl⟩ (fun _ _ _ _ _ => by simp) ?_ ?_
  · rintro n s h1 hn ⟨rfl, rfl⟩
    have hn' : n < w.length := by simpa using hn
    have hr : (List.range w.length)[n] = n := List.getElem_range _
    rw [hr]
    refine ⟨_, _, rfl, ?_⟩
    have hk : w.length - 1 - n < w.length := by omega
    generalize hkk : w.length - 1 - n = k at hk
    have hf : ∀ i ∈ dxs (meet L) w (at' L p) n, k < i ∧ i < w.length := fun i hi => by have := dxs_mem (by omega : n ≤ w.length) i hi; omega
    have hfl := dxs_len (m := meet L) (w := w) (P := at' L p) (n := n)
    have hnext := dxs_succ (m := meet L) (P := at' L p) hn'
    rw [hkk] at hnext
    rw [hnext]
    generalize dxs (meet L) w (at' L p) n = f at *
    have hno : k ∉ f := fun z => by have := (hf k z).1; omega
    have i1 : fIx (wD w) (nD k) (h ++ [.dK (kd f)]) = _ := ix_of (L := L) (w := w) rfl hk
    have i2 : fIx (lD L) (nD (w.getD k 0)) (h ++ [.dK (kd f)]) = _ := ix_pll (L := L) (a := w.getD k 0) _ (by rw [getD_at hk]; exact fw.at hk)
    have c1 := cnt_eq (p := p) (b := h.length) (ng := h.length) (H := h ++ [.dK (kd f)]) hp fw hk hf (by omega) (Nat.le_refl _) (by simp)
    have c2 : at' L p (w.getD k 0) = has (pl L (w.getD k 0)) p := rfl
    have ep := fPut_kd' (c := k) (b := h.length) (n := h.length) (cs := f) (H := h ++ [.dK (kd f)]) (Nat.le_refl _) (by omega) (by simp)
    rw [if_neg hno] at ep
    rw [c2]
    generalize w.getD k 0 = a at *
    cases q1 : has (pl L a) p with
    | true => simp [i1, i2, q1, ep]
    | false =>
      have e3 : ((f.filter fun j => meet L a (w.getD j 0)).map fun _ => Z.D.int 1) = [] ↔ (f.any fun i => meet L a (w.getD i 0)) = false := by
        rw [List.map_eq_nil_iff, List.filter_eq_nil_iff, List.any_eq_false]
      generalize ((f.filter fun j => meet L a (w.getD j 0)).map fun _ => Z.D.int 1) = cl at *
      generalize (f.any fun i => meet L a (w.getD i 0)) = q2 at *
      cases q2 with
      | true =>
        have : 0 < cl.length := List.length_pos_iff.mpr fun z => by have := e3.mp z; cases this
        simp [i1, i2, q1, c1, ep, this]
      | false =>
        have := e3.mpr rfl
        subst this
        simp [i1, i2, q1, c1]
  · rintro s h1 ⟨rfl, rfl⟩
    rw [List.length_range, dxs_all]
    have nd : ((vx (meet L) w (at' L p)).reverse).Nodup := by rw [← dxs_all]; exact dxs_nodup _ _ _
    have ll : ((vx (meet L) w (at' L p)).reverse).length < 64 := by
      have := vx_len (m := meet L) (w := w) (P := at' L p)
      rw [List.length_reverse]
      omega
    have es := fSorted_kd' (H := h ++ [.dK (kd (vx (meet L) w (at' L p)).reverse)]) (n := h.length) nd ll (by simp)
    have em : ((vx (meet L) w (at' L p)).reverse).mergeSort (· ≤ ·) = vx (meet L) w (at' L p) := by
      refine List.Perm.eq_of_pairwise (le := fun a b => a ≤ b) (fun a b _ _ h1 h2 => by omega) ?_ ((vx_sort _ _).imp fun h => by omega) ((List.mergeSort_perm _ _).trans (List.reverse_perm _))
      have := List.pairwise_mergeSort (le := fun a b : Nat => decide (a ≤ b)) (fun a b c h1 h2 => by simp at *; omega) (fun a b => by simp; omega) ((vx (meet L) w (at' L p)).reverse)
      exact this.imp fun h => by simpa using h
    rw [em] at es
    simp [es]
    exact ⟨_, rfl, by simp⟩
end K67
set_option Elab.async false
set_option linter.all false
set_option maxRecDepth 100000
set_option maxHeartbeats 2000000
/-! nested views: the code's and the law's. -/
namespace K67
open PySem PySem.Spec L2 Z NV
/-- the view as a word -/
abbrev vL (L : List (List Nat)) (p : Nat) (w : List Nat) : List Nat := vw (pl := pl L) p w
theorem vL_eq (L : List (List Nat)) (p : Nat) (w : List Nat) : vL L p w = G (meet L) w (at' L p) := rfl
theorem vi_map (L : List (List Nat)) (p : Nat) (w : List Nat) : (vi L w p).map (fun i => w.getD i 0) = vL L p w := vx_map _ _
theorem Fit.view {L : List (List Nat)} {w : List Nat} (f : Fit L w) (p : Nat) : Fit L (vL L p w) := f.sub G_len fun x hx => G_mem x hx
theorem view_len {L : List (List Nat)} {w : List Nat} {p : Nat} : (vL L p w).length ≤ w.length := G_len
def nest (L : List (List Nat)) (row : List Nat) (w : List Nat) : List Nat := row.foldl (fun w p => vL L p w) w
theorem nest_succ {L : List (List Nat)} {row w : List Nat} {k : Nat} (hk : k < row.length) : nest L (row.take (k + 1)) w = vL L row[k] (nest L (row.take k) w) := by
  unfold nest
  rw [List.take_succ_eq_append_getElem hk, List.foldl_append]
  rfl
theorem nest_fit {L : List (List Nat)} {w : List Nat} (f : Fit L w) : ∀ row : List Nat, Fit L (nest L row w) ∧ (nest L row w).length ≤ w.length := by
  intro row
  induction row generalizing w with
  | nil => exact ⟨f, Nat.le_refl _⟩
  | cons p row ih =>
    have := ih (f.view p)
    exact ⟨this.1, Nat.le_trans this.2 view_len⟩
section
variable {L : List (List Nat)} {w : List Nat}
theorem pick_eq {g : ET} {x : ED} {b : Nat} {s : Sl} {h : Own} {kp : Kp} (is : List Nat) (hk : kpOk kp h) (hs : ∀ i ∈ is, ∃ s1, g (nD i) ⟨b, s⟩ h = .next s1 h ∧ x ⟨b, s1⟩ h = .ok (nD (w.getD i 0)) h) (hl : is.length ≤ 1000) :
    compGo kp g bYes x b s (is.map nD) h [] = .ok (.n (.lst ((is.map fun i => w.getD i 0).map nD))) h := by
  rw [comp_pure nD (fun _ => true) (fun i => nD (w.getD i 0)) hk is [] (fun a ha => ?_) (sz _ (by simp; omega))]
  · have : is.filter (fun _ => true) = is := List.filter_eq_self.mpr fun _ _ => rfl
    rw [this, List.map_map]
    rfl
  · obtain ⟨s1, e1, e2⟩ := hs a ha
    exact ⟨s1, e1, rfl, fun _ => e2⟩
theorem law_nested_eq {row : List Nat} (hp : ∀ l ∈ L, l.length ≤ 100) (fw : Fit L w) (hl : w.length ≤ 60) (h : Own) : callB B__law_nested [lD L, wD w, wD row] h = .ok (.v (wD (nest L row w))) h := by
  refine call_v (by simp) ?_
  unfold B__law_nested body S__law_nested
  simp only [W_seq]
  simp
  refine W_list nD row (fun k s h1 => s = [some (lD L), some (wD (nest L (row.take k) w)), some (wD row), none, none] ∧ h1 = h) ⟨rfl, rfl⟩ (fun _ _ _ _ _ => by simp) ?_ ?_
  · rintro k s h1 hk ⟨rfl, rfl⟩
    refine ⟨_, _, rfl, ?_⟩
    have f := nest_fit fw (row.take k)
    rw [nest_succ hk]
    generalize nest L (row.take k) w = v at *
    generalize row[k] = p
    have c1 := law_view_eq (p := p) hp f.1 (by omega) h1
    simp [c1]
    rw [pick_eq (w := v) (vi L v p) (by simp)]
    · rw [vi_map]
      simp
    · intro i hi
      have i1 : fIx (wD v) (nD i) h1 = _ := ix_of (L := L) (w := v) rfl (vx_lt i hi)
      exact ⟨_, rfl, by simp [i1]⟩
    · have : (vi L v p).length ≤ v.length := vx_len (m := meet L) (w := v) (P := at' L p)
      have := f.2
      omega
  · rintro s h1 ⟨rfl, rfl⟩
    rw [List.take_length]
    simp
    exact ⟨_, rfl, by simp⟩
theorem cnt_len (v : List Nat) (c : Nat) : ((v.filter fun x => decide (x = c)).map fun _ => Z.D.int 1).length = v.count c := by
  rw [List.length_map, List.count_eq_length_filter]
  congr 1
theorem count_comp {g : ET} {t : EB} {b : Nat} {s : Sl} {h : Own} (v : List Nat) (c : Nat) (hs : ∀ i ∈ v, ∃ s1, g (nD i) ⟨b, s⟩ h = .next s1 h ∧ t ⟨b, s1⟩ h = .ok (decide (i = c)) h) (hl : v.length ≤ 1000) :
    ∃ ds : List Z.D, ds.length = v.count c ∧ compGo none g t (eC (.int 1)) b s (v.map nD) h [] = .ok (.n (.lst ds)) h := by
  refine ⟨_, cnt_len v c, ?_⟩
  rw [comp_pure nD (fun i => decide (i = c)) (fun _ => .int 1) (by simp) v [] (fun a ha => ?_) (sz _ (by simp; omega))]
  · simp
  · obtain ⟨s1, e1, e2⟩ := hs a ha
    exact ⟨s1, e1, e2, fun _ => rfl⟩
theorem nested_count_eq {P c : Nat} {row : List Nat} (fw : Fit L w) (hl : w.length ≤ 60) (h : Own) : callB B_nested_count [aD P L, wD w, wD row, nD c] h = .ok (.v (nD ((nest L row w).count c))) h := by
  refine call_v rfl ?_
  unfold B_nested_count body S_nested_count
  simp only [W_seq]
  simp
  refine W_list nD row (fun k s h1 => s = [some (aD P L), some (wD w), some (wD row), some (nD c), some (wD (nest L (row.take k) w)), none, none, none] ∧ h1 = h) ⟨rfl, rfl⟩ (fun _ _ _ _ _ => by simp) ?_ ?_
  · rintro k s h1 hk ⟨rfl, rfl⟩
    refine ⟨_, _, rfl, ?_⟩
    have f := nest_fit fw (row.take k)
    rw [nest_succ hk]
    generalize nest L (row.take k) w = v at *
    generalize row[k] = p
    have c1 := view_eq (P := P) (p := p) f.1 h1
    simp [c1]
    rw [pick_eq (w := v) (vi L v p) (by simp)]
    · rw [vi_map]
      simp
    · intro i hi
      have i1 : fIx (wD v) (nD i) h1 = _ := ix_of (L := L) (w := v) rfl (vx_lt i hi)
      exact ⟨_, rfl, by simp [i1]⟩
    · have : (vi L v p).length ≤ v.length := vx_len (m := meet L) (w := v) (P := at' L p)
      have := f.2
      omega
  · rintro s h1 ⟨rfl, rfl⟩
    rw [List.take_length]
    have f := nest_fit fw row
    generalize nest L row w = v at *
    simp
    obtain ⟨ds, e1, e2⟩ := count_comp (g := tN 7) (t := eTB (e2 fEq (eVar 7) (eVar 3))) (b := h1.length) (s := [some (aD P L), some (wD w), some (wD row), some (nD c), some (wD v), none, none, none]) (h := h1) v c (fun i hi => ⟨_, rfl, by simp; omega⟩) (by omega)
    rw [e2]
    simp [e1]
    exact ⟨_, rfl, by simp⟩
end
end K67
set_option Elab.async false
set_option linter.all false
set_option maxRecDepth 100000
/-! V3: the matrix and the ledger, by greatest counts: plain. -/
namespace NV
def mxl (l : List Nat) : Nat := l.foldr max 0
theorem mxl_le {l : List Nat} : ∀ x ∈ l, x ≤ mxl l := by
  induction l with
  | nil => intro x h; cases h
  | cons a l ih =>
    intro x h
    show x ≤ max a (mxl l)
    rcases List.mem_cons.mp h with rfl | h
    · omega
    · have := ih x h; omega
theorem mxl_mem {l : List Nat} (h : l ≠ []) : mxl l ∈ l := by
  induction l with
  | nil => exact absurd rfl h
  | cons a l ih =>
    show max a (mxl l) ∈ a :: l
    by_cases e : l = []
    · subst e
      show max a 0 ∈ [a]
      simp
    · have := ih e
      rcases Nat.le_total a (mxl l) with z | z
      · rw [Nat.max_eq_right z]; exact List.mem_cons_of_mem _ this
      · rw [Nat.max_eq_left z]; exact List.mem_cons_self
theorem mx_mxl {ι : Type} {I : List ι} (hI : I ≠ []) (c : ι → Nat) : Mx I c (mxl (I.map c)) := by
  refine ⟨fun i hi => mxl_le _ (List.mem_map.mpr ⟨i, hi, rfl⟩), ?_⟩
  obtain ⟨i, hi, e⟩ := List.mem_map.mp (mxl_mem (l := I.map c) (by simpa using hI))
  exact ⟨i, hi, e⟩
section
variable {pl : Nat → List Nat} {w : List Nat}
theorem mc_half' {a p q b : Nat} (h : p ∈ pl a) (hq : q ∉ pl a) (hb : pl b ≠ []) : mc (pl := pl) (w ++ [a]) p q b = mxl ((pl a).map fun p => mc (pl := pl) w p q b) :=
  (mc_half h hq hb).uniq (mx_mxl (by rintro e; rw [e] at h; cases h) _)
theorem lc_yes' {a p b : Nat} (h : p ∈ pl a) (hb : pl b ≠ []) : lc (pl := pl) (w ++ [a]) p b = mxl ((pl a).map fun p => lc (pl := pl) w p b) + if a = b then 1 else 0 := by
  obtain ⟨t, h1, h2⟩ := lc_yes (w := w) h hb
  rw [h2, h1.uniq (mx_mxl (by rintro e; rw [e] at h; cases h) _)]
theorem mc_yes' {a p q b : Nat} (h : p ∈ pl a) (hq : q ∈ pl a) (hb : pl b ≠ []) : mc (pl := pl) (w ++ [a]) p q b = mxl ((pl a).map fun q => mxl ((pl a).map fun p => mc (pl := pl) w p q b)) + if a = b then 1 else 0 := by
  obtain ⟨t, h1, h2⟩ := mc_yes (w := w) h hq hb
  have ne : pl a ≠ [] := by rintro e; rw [e] at h; cases h
  rw [h2]
  congr 1
  refine Mx.uniq (I := pl a) (c := fun q => mxl ((pl a).map fun p => mc (pl := pl) w p q b)) ⟨fun q hq => ?_, ?_⟩ (mx_mxl ne _)
  · obtain ⟨p, hp, e⟩ := (mx_mxl ne fun p => mc (pl := pl) w p q b).eq
    have := mc_le (pl := pl) w p q b
    have := h1.le p hp
    omega
  · obtain ⟨r, hr, e⟩ := h1.eq
    refine ⟨r, hr, ?_⟩
    have k1 : mc (pl := pl) w r r b ≤ _ := (mx_mxl ne fun p => mc (pl := pl) w p r b).le r hr
    have k2 := mc_same (pl := pl) w r b
    obtain ⟨p, hp, e2⟩ := (mx_mxl ne fun p => mc (pl := pl) w p r b).eq
    have k3 := mc_le (pl := pl) w p r b
    have k4 := h1.le p hp
    show mxl ((pl a).map fun p => mc (pl := pl) w p r b) = t
    replace e2 : mc (pl := pl) w p r b = _ := e2
    replace e : lc (pl := pl) w r b = t := e
    replace k4 : lc (pl := pl) w p b ≤ t := k4
    omega
theorem mc_nil (p q b : Nat) : mc (pl := pl) [] p q b = 0 := rfl
theorem lc_nil (p b : Nat) : lc (pl := pl) [] p b = 0 := rfl
end
/-- one of a row is set -/
theorem set_rng {α : Type} (n : Nat) (f : Nat → α) (k : Nat) (v : α) : ((List.range n).map f).set k v = (List.range n).map fun i => if i = k then v else f i := by
  apply List.ext_getElem?
  intro i
  rw [List.getElem?_set]
  by_cases h : k = i
  · subst h
    by_cases hn : k < n
    · simp [hn]
    · simp [hn]
  · by_cases hn : i < n
    · simp [hn, h, Ne.symm h]
    · simp [hn, h]
end NV
set_option Elab.async false
set_option linter.all false
set_option maxRecDepth 100000
set_option maxHeartbeats 2000000
/-! the matrix. -/
namespace K67
open PySem PySem.Spec L2 Z NV
/-! helpers -/
theorem call_nx {G : BD} {as : List Z.D} {h h' : Own} (hl : h'.length = h.length) (e : W (G h.length as h) fun r => ∃ s l, r = .next s (h' ++ l)) : callB G as h = .ok (.v .non) h' := by
  obtain ⟨s, l, e⟩ := e
  unfold callB
  rw [e]
  show exitR h.length (.v .non) (h' ++ l) = _
  unfold exitR
  dsimp only
  rw [if_pos (by rfl), ← hl, List.take_left]
theorem fPut_ls {H : Own} {b n : Nat} {xs : List Z.D} {k : Nat} {v : Z.D} (hb : nrfO (.lst (xs.set k v)) = true) (hk : k < xs.length) (e : H[n]? = some (.lst xs)) : fPut b (.ref n) (.int (k : Int)) v H = some (H.set n (.lst (xs.set k v))) := by
  unfold fPut
  simp only [e, ixN_nat hk]
  exact putO_nrf hb
theorem repL_eq (d : Z.D) {k : Nat} (hk : k ≤ 1000) (h : Own) : fMulT (.lst [d]) (nD k) h = .ok (.n (.lst (List.replicate k d))) h := by
  have e1 : fMul (.lst [d]) (nD k) h = .stuck := rfl
  have e2 : fRepL (.lst [d]) (nD k) h = .ok (.n (.lst (List.replicate k d))) h := by
    unfold fRepL
    have hc : R63 (k : Int) ∧ ([d] : List Z.D).length * (k : Int).toNat ≤ sizeLine := ⟨r63 (by omega), by simp; exact sz _ (by omega)⟩
    simp only [asL_lst]
    rw [if_pos hc]
    simp
  have e3 : fMulA (.lst [d]) (nD k) h = .ok (.n (.lst (List.replicate k d))) h := by
    show (match fMul (.lst [d]) (nD k) h with | .stuck => fRepL (.lst [d]) (nD k) h | z => z) = _
    rw [e1]
    exact e2
  show (match fMulA (.lst [d]) (nD k) h with | .stuck => fRepT (.lst [d]) (nD k) h | z => z) = _
  rw [e3]
theorem repT_eq (d : Z.D) {k : Nat} (h1 : 1 ≤ k) (hk : k ≤ 1000) (h : Own) : fMulT (.tup [d]) (nD k) h = .ok (.v (.tup (List.replicate k d))) h := by
  have e1 : fMul (.tup [d]) (nD k) h = .stuck := rfl
  have e2 : fRepL (.tup [d]) (nD k) h = .stuck := rfl
  have e3 : fMulA (.tup [d]) (nD k) h = .stuck := by
    show (match fMul (.tup [d]) (nD k) h with | .stuck => fRepL (.tup [d]) (nD k) h | z => z) = _
    rw [e1]
    exact e2
  show (match fMulA (.tup [d]) (nD k) h with | .stuck => fRepT (.tup [d]) (nD k) h | z => z) = _
  rw [e3]
  show fRepT (.tup [d]) (nD k) h = _
  unfold fRepT
  dsimp only
  by_cases e : (k : Int) = 1
  · rw [if_pos e]
    have : k = 1 := by omega
    subst this
    rfl
  · rw [if_neg e, if_pos ⟨by simp, by omega, by omega, by simp⟩]
    simp
/-- a row of counts -/
abbrev rD (n : Nat) (f : Nat → Nat) : Z.D := wD ((List.range n).map f)
theorem ix_rD {n k : Nat} {f : Nat → Nat} (hk : k < n) (h : Own) : fIx (rD n f) (nD k) h = .ok (.v (nD (f k))) h := ix_w h (by rw [List.getElem?_map, List.getElem?_range hk]; rfl)
theorem rD_congr {n : Nat} {f g : Nat → Nat} (h : ∀ b, b < n → f b = g b) : rD n f = rD n g := by
  unfold rD
  rw [List.map_congr_left fun b hb => h b (List.mem_range.mp hb)]
theorem nrf_rD (n : Nat) (f : Nat → Nat) : nrf (rD n f) = true := nrf_wD _
/-- greatest(rows) -/
theorem greatest_eq {ι : Type} {I : List ι} (hI : I ≠ []) {n : Nat} (hn : n ≤ 1000) (hl : I.length ≤ 1000) (c : ι → Nat → Nat) (h : Own) : callB B_greatest [.lst (I.map fun i => rD n (c i))] h = .ok (.v (rD n fun b => mxl (I.map fun i => c i b))) h := by
  refine call_v (nrf_rD _ _) ?_
  unfold B_greatest body S_greatest
  have i0 : fIx (.lst (I.map fun i => rD n (c i))) (.int 0) h = .ok (.v (rD n (c (I.head hI)))) h := fIx_q (k := 0) rfl rfl (by
    cases I with
    | nil => exact absurd rfl hI
    | cons i I => rfl)
  simp [i0, r62 (show n ≤ 1000000 by omega)]
  rw [comp_range (fun _ => true) (fun b => nD (mxl (I.map fun i => c i b))) n]
  · have : (List.range n).filter (fun _ => true) = List.range n := List.filter_eq_self.mpr fun _ _ => rfl
    rw [this]
    have hrD : rD n (fun b => mxl (I.map fun i => c i b)) = .tup ((List.range n).map fun b => nD (mxl (I.map fun i => c i b))) := by
      rw [rD, wD, List.map_map]
      rfl
    rw [hrD]
    simp
    exact ⟨_, rfl, by simp⟩
  · intro b hb
    refine ⟨_, rfl, rfl, fun _ => ?_⟩
    simp
    rw [comp_pure (fun i => rD n (c i)) (fun _ => true) (fun i => nD (c i b)) (by simp) I [] ?_ (sz _ (by simp; omega))]
    · have : I.filter (fun _ => true) = I := List.filter_eq_self.mpr fun _ _ => rfl
      rw [this]
      have em : fMax [.lst (((I.map fun i => c i b).map fun x : Nat => (x : Int)).map .int)] h = .ok (.v (.int ((mxl (I.map fun i => c i b) : Nat) : Int))) h := by
        refine fMax_ints ?_ ?_ h
        · exact List.mem_map.mpr ⟨_, mxl_mem (by simpa using hI), rfl⟩
        · intro y hy
          obtain ⟨x, hx, rfl⟩ := List.mem_map.mp hy
          have := mxl_le x hx
          omega
      have em' : fMax [.lst (I.map fun i => nD (c i b))] h = .ok (.v (nD (mxl (I.map fun i => c i b)))) h := by
        rw [List.map_map, List.map_map] at em
        exact em
      simp only [Res.bind_ok, frzO_lst, List.nil_append, em']
    · intro i hi
      refine ⟨_, rfl, rfl, fun _ => ?_⟩
      have i1 := ix_rD (f := c i) hb h
      simp [i1]
  · exact sz _ (by omega)
/-! the matrix -/
abbrev mcL (L : List (List Nat)) (w : List Nat) (p q b : Nat) : Nat := mc (pl := pl L) w p q b
abbrev lcL (L : List (List Nat)) (w : List Nat) (p b : Nat) : Nat := lc (pl := pl L) w p b
/-- P rows of n counts -/
abbrev tD (P n : Nat) (f : Nat → Nat → Nat) : Z.D := .tup ((List.range P).map fun q => rD n (f q))
def rows (P n : Nat) (f : Nat → Nat → Nat → Nat) : List Z.D := (List.range P).map fun p => tD P n (f p)
theorem nrfs_map {α : Type} (f : α → Z.D) (hf : ∀ a, nrf (f a) = true) : ∀ l : List α, nrfs (l.map f) = true
  | [] => rfl
  | a :: l => by rw [List.map_cons, nrfs, hf, nrfs_map f hf l]; rfl
theorem nrf_tD (P n : Nat) (f : Nat → Nat → Nat) : nrf (tD P n f) = true := by rw [nrf]; exact nrfs_map _ (fun q => nrf_rD n (f q)) _
theorem nrf_rows (P n : Nat) (f : Nat → Nat → Nat → Nat) : nrfO (.lst (rows P n f)) = true := by rw [nrfO]; exact nrfs_map _ (fun p => nrf_tD P n (f p)) _
theorem ix_tD {P n k : Nat} {f : Nat → Nat → Nat} (hk : k < P) (h : Own) : fIx (tD P n f) (nD k) h = .ok (.v (rD n (f k))) h := fIx_q (k := k) rfl rfl (by rw [List.getElem?_map, List.getElem?_range hk]; rfl)
theorem ix_rows {P n k r : Nat} {f : Nat → Nat → Nat → Nat} {H : Own} (hk : k < P) (e : H[r]? = some (.lst (rows P n f))) : fIx (.ref r) (nD k) H = .ok (.v (tD P n (f k))) H := fIx_q (k := k) (asQ_ref e) rfl (by rw [rows, List.getElem?_map, List.getElem?_range hk]; rfl)
theorem rows_zero (P n : Nat) (f : Nat → Nat → Nat → Nat) (hf : ∀ p q b, f p q b = 0) : rows P n f = List.replicate P (.tup (List.replicate P (.tup (List.replicate n (.int 0))))) := by
  unfold rows tD rD
  have : f = fun _ _ _ => 0 := by funext p q b; exact hf p q b
  subst this
  have h1 : (List.range n).map (fun _ => 0) = List.replicate n 0 := by rw [List.map_const', List.length_range]
  simp only [h1, wD, List.map_replicate, List.map_const', List.length_range]
  rfl
/-- Matrix(alphabet) -/
theorem minit_eq {P : Nat} {L : List (List Nat)} (A : Alph P L) (h : Own) : ∃ s, B_Matrix___init__ h.length [.ref h.length, aD P L] (h ++ [.ins 1 []]) = .next s (h ++ [.ins 1 [aD P L, .ref (h.length + 1)], .lst (rows P L.length (mcL L []))]) := by
  have main : W (B_Matrix___init__ h.length [.ref h.length, aD P L] (h ++ [.ins 1 []])) fun r => ∃ s, r = .next s (h ++ [.ins 1 [aD P L, .ref (h.length + 1)], .lst (rows P L.length (mcL L []))]) := by
    have h1 := A.p1
    have h2 := A.p2
    have h3 := A.l1
    have h4 := A.l2
    have e1 : ∀ H, fMulT (.tup [.int 0]) (nD L.length) H = _ := fun H => repT_eq (.int 0) (k := L.length) (by omega) (by omega) H
    have e2 : ∀ H d, fMulT (.tup [d]) (nD P) H = _ := fun H d => repT_eq d (k := P) (by omega) (by omega) H
    have e3 : ∀ H d, fMulT (.lst [d]) (nD P) H = _ := fun H d => repL_eq d (k := P) (by omega) H
    have ez := rows_zero P L.length (mcL L []) (fun p q b => mc_nil p q b)
    unfold B_Matrix___init__ body S_Matrix___init__
    simp only [W_seq]
    simp [aD, attD, e1, e2, e3, sz 1]
    simp [attD, W, ez]
  exact main
section
variable {P : Nat} {L : List (List Nat)} {w : List Nat} {a n r : Nat} {H : Own}
/-- matrix.happen(a) -/
theorem mhappen_eq (A : Alph P L) (ha : a < L.length) (hI : H[n]? = some (.ins 1 [aD P L, .ref r])) (hR : H[r]? = some (.lst (rows P L.length (mcL L w)))) :
    callB B_Matrix_happen [.ref n, nD a] H = .ok (.v .non) (H.set r (.lst (rows P L.length (mcL L (w ++ [a]))))) := by
  have h1 := A.p1
  have h2 := A.p2
  have h3 := A.l1
  have h4 := A.l2
  have hn := lt_of_get hI
  have hr := lt_of_get hR
  have la : Lett P (pl L a) := A.le _ (List.mem_of_getElem? (pl_of ha))
  have ne : ∀ b, b < L.length → pl L b ≠ [] := fun b hb => (A.le _ (List.mem_of_getElem? (pl_of hb))).ne
  have lsh := la.sh
  have ipl : ∀ h, fIx (.tup (L.map wD)) (nD a) h = _ := fun h => ix_pl h ha
  refine call_nx (by simp) ?_
  unfold B_Matrix_happen body S_Matrix_happen
  refine W_step (s' := [some (.ref n), some (nD a), some (wD (pl L a)), none, none, none, none, none, none]) (h' := H) (by simp [hI, aD, ipl]) ?_
  have eK : compGo none (tN 4) bYes (ed (e2 fIx (ed (e1 (fFld [1] 1) (eVar 0))) (eVar 4))) H.length [some (.ref n), some (nD a), some (wD (pl L a)), none, none, none, none, none, none] ((pl L a).map nD) H [] = .ok (.n (.lst ((pl L a).map fun p => tD P L.length (mcL L w p)))) H := by
    rw [comp_pure nD (fun _ => true) (fun p => tD P L.length (mcL L w p)) (by simp) (pl L a) [] ?_ (sz _ (by simp; omega))]
    · have : (pl L a).filter (fun _ => true) = pl L a := List.filter_eq_self.mpr fun _ _ => rfl
      rw [this]
      rfl
    · intro p hp
      refine ⟨_, rfl, rfl, fun _ => ?_⟩
      have i1 := ix_rows (P := P) (n := L.length) (f := mcL L w) (la.lt p hp) hR
      simp [hI, i1]
  refine W_step (s' := [some (.ref n), some (nD a), some (wD (pl L a)), some (.lst ((pl L a).map fun p => tD P L.length (mcL L w p))), none, none, none, none, none]) (h' := H) (by simp [eK]) ?_
  refine W_step (s' := [some (.ref n), some (nD a), some (wD (pl L a)), some (.lst ((pl L a).map fun p => tD P L.length (mcL L w p))), none, some (.ref H.length), none, none, none]) (h' := H ++ [.lst []]) (by simp [sz 0]) ?_
  simp only [W_seq]
  simp [List.getElem?_append_left hn, hI, aD, r62 (show P ≤ 1000000 by omega)]
  refine W_range P (fun k s h => s = [some (.ref n), some (nD a), some (wD (pl L a)), some (.lst ((pl L a).map fun p => tD P L.length (mcL L w p))), none, some (.ref H.length), none, none, none] ∧ h = H ++ [.lst ((List.range k).map fun q => rD L.length fun b => mxl ((pl L a).map fun p => mcL L w p q b))]) ⟨rfl, rfl⟩ ?_ ?_
  · rintro k s h hk ⟨rfl, rfl⟩
    refine ⟨_, _, rfl, ?_⟩
    generalize hHk : H ++ [.lst ((List.range k).map fun q => rD L.length fun b => mxl ((pl L a).map fun p => mcL L w p q b))] = Hk
    have hget : Hk[H.length]? = some (.lst ((List.range k).map fun q => rD L.length fun b => mxl ((pl L a).map fun p => mcL L w p q b))) := by rw [← hHk]; simp
    have hlen : Hk.length = H.length + 1 := by rw [← hHk]; simp
    have eG := greatest_eq la.ne (n := L.length) (by omega) (by omega) (fun p => mcL L w p k) Hk
    have eC : compGo none (tN 7) bYes (ed (e2 fIx (eVar 7) (eVar 6))) H.length [some (.ref n), some (nD a), some (wD (pl L a)), some (.lst ((pl L a).map fun p => tD P L.length (mcL L w p))), none, some (.ref H.length), some (nD k), none, none] ((pl L a).map fun p => tD P L.length (mcL L w p)) Hk [] = .ok (.n (.lst ((pl L a).map fun p => rD L.length (mcL L w p k)))) Hk := by
      rw [comp_pure (fun p => tD P L.length (mcL L w p)) (fun _ => true) (fun p => rD L.length (mcL L w p k)) (by simp) (pl L a) [] ?_ (sz _ (by simp; omega))]
      · have : (pl L a).filter (fun _ => true) = pl L a := List.filter_eq_self.mpr fun _ _ => rfl
        rw [this]
        rfl
      · intro p hp
        refine ⟨_, rfl, rfl, fun _ => ?_⟩
        have i1 := ix_tD (n := L.length) (f := mcL L w p) hk Hk
        simp [i1]
    simp [eC, eG, hget, szl (show k ≤ 1000000 by omega), putO_own (Nat.le_refl _)]
    rw [← hHk]
    simp [List.range_succ]
  · rintro s h ⟨rfl, rfl⟩
    rw [Th_next]
    generalize hf : (fun q b => mxl ((pl L a).map fun p => mcL L w p q b)) = f
    have e0 : ((List.range P).map fun q => rD L.length fun b => mxl ((pl L a).map fun p => mcL L w p q b)) = (List.range P).map fun q => rD L.length (f q) := by rw [← hf]
    rw [e0]
    generalize hHk : H ++ [.lst ((List.range P).map fun q => rD L.length (f q))] = Hk
    have hget : Hk[H.length]? = some (.lst ((List.range P).map fun q => rD L.length (f q))) := by rw [← hHk]; simp
    have hlen : Hk.length = H.length + 1 := by rw [← hHk]; simp
    have eG := greatest_eq la.ne (n := L.length) (by omega) (by omega) f Hk
    have eC : compGo none (tN 4) bYes (ed (e2 fIx (eVar 5) (eVar 4))) H.length [some (.ref n), some (nD a), some (wD (pl L a)), some (.lst ((pl L a).map fun p => tD P L.length (mcL L w p))), none, some (.ref H.length), none, none, none] ((pl L a).map nD) Hk [] = .ok (.n (.lst ((pl L a).map fun p => rD L.length (f p)))) Hk := by
      rw [comp_pure nD (fun _ => true) (fun p => rD L.length (f p)) (by simp) (pl L a) [] ?_ (sz _ (by simp; omega))]
      · have : (pl L a).filter (fun _ => true) = pl L a := List.filter_eq_self.mpr fun _ _ => rfl
        rw [this]
        rfl
      · intro p hp
        refine ⟨_, rfl, rfl, fun _ => ?_⟩
        have i1 : fIx (.ref H.length) (nD p) Hk = .ok (.v (rD L.length (f p))) Hk := fIx_q (k := p) (asQ_ref hget) rfl (by rw [List.getElem?_map, List.getElem?_range (la.lt p hp)]; rfl)
        simp [i1]
    generalize hg : (fun b => mxl ((pl L a).map fun i => f i b)) = g at eG
    have hrg : rD L.length g = .tup ((List.range L.length).map fun b => nD (g b)) := by
      rw [rD, wD, List.map_map]
      rfl
    rw [hrg] at eG
    refine W_step (s' := [some (.ref n), some (nD a), some (wD (pl L a)), some (.lst ((pl L a).map fun p => tD P L.length (mcL L w p))), none, some (.ref H.length), none, none, some (.ref (H.length + 1))]) (h' := Hk ++ [.lst ((List.range L.length).map fun b => nD (g b))]) (by simp [eC, eG, hlen]) ?_
    generalize hH2 : Hk ++ [.lst ((List.range L.length).map fun b => nD (g b))] = H2
    have g2 : H2[H.length + 1]? = some (.lst ((List.range L.length).map fun b => nD (g b))) := by rw [← hH2, ← hlen]; simp
    have eg : fGet (.ref (H.length + 1)) (.int (a : Int)) H2 = some (nD (g a)) := fGet_lst g2 (by rw [List.getElem?_map, List.getElem?_range ha]; rfl)
    have ep : fPut H.length (.ref (H.length + 1)) (.int (a : Int)) (.int ((g a : Int) + 1)) H2 = some (Hk ++ [.lst ((List.range L.length).map fun b => nD (g b + if a = b then 1 else 0))]) := by
      rw [fPut_lst (by omega) (by simpa using ha) g2, set_rng, ← hH2, ← hlen, hp_set0]
      congr 3
      simp only [List.set_cons_zero, List.cons.injEq, and_true, O.lst.injEq]
      apply List.map_congr_left
      intro b hb
      by_cases e : b = a
      · subst e
        simp
      · have : ¬ a = b := fun z => e z.symm
        simp [e, this]
    refine W_step (s' := [some (.ref n), some (nD a), some (wD (pl L a)), some (.lst ((pl L a).map fun p => tD P L.length (mcL L w p))), none, some (.ref H.length), none, none, some (.ref (H.length + 1))]) (h' := Hk ++ [.lst ((List.range L.length).map fun b => nD (g b + if a = b then 1 else 0))]) (by simp [eg, ep]) ?_
    generalize hev : (fun b => g b + if a = b then 1 else 0) = ev
    have e1 : ((List.range L.length).map fun b => nD (g b + if a = b then 1 else 0)) = (List.range L.length).map fun b => nD (ev b) := by rw [← hev]
    rw [e1]
    have hre : Z.D.tup ((List.range L.length).map fun b => nD (ev b)) = rD L.length ev := by
      rw [rD, wD, List.map_map]
      rfl
    rw [← hHk, List.append_assoc, List.cons_append, List.nil_append]
    clear eC eG e0 hget g2 eg ep
    generalize hE : O.lst ((List.range L.length).map fun b => nD (ev b)) = E
    have hnr : n ≠ r := by rintro rfl; rw [hI] at hR; cases hR
    have ft : ∀ X : List Z.D, fTuple [.ref (H.length + 1)] (H ++ [.lst X, E]) = .ok (.v (rD L.length ev)) (H ++ [.lst X, E]) := fun X => by
      rw [← hre, ← hE]
      simp
    simp only [W_seq]
    simp
    refine W_list nD (pl L a) (fun k s h => s = [some (.ref n), some (nD a), some (wD (pl L a)), some (.lst ((pl L a).map fun p => tD P L.length (mcL L w p))), none, some (.ref H.length), none, none, some (.ref (H.length + 1))] ∧ h = H ++ [.lst ((List.range P).map fun q => if q ∈ (pl L a).take k then rD L.length ev else rD L.length (f q)), E]) ⟨rfl, by simp⟩ (fun _ _ _ _ _ => by simp) ?_ ?_
    · rintro k s h hk ⟨rfl, rfl⟩
      refine ⟨_, _, rfl, ?_⟩
      have hp := la.lt _ (List.getElem_mem hk)
      have ts : ∀ q, q ∈ (pl L a).take (k + 1) ↔ q ∈ (pl L a).take k ∨ q = (pl L a)[k] := fun q => by rw [List.take_succ_eq_append_getElem hk, List.mem_append, List.mem_singleton]
      generalize (pl L a)[k] = p at *
      generalize (pl L a).take (k + 1) = T1 at *
      generalize (pl L a).take k = T0 at *
      have ep := fPut_lst (b := H.length) (n := H.length) (H := H ++ [.lst ((List.range P).map fun q => if q ∈ T0 then rD L.length ev else rD L.length (f q)), E]) (xs := (List.range P).map fun q => if q ∈ T0 then rD L.length ev else rD L.length (f q)) (k := p) (v := rD L.length ev) (Nat.le_refl _) (by simpa using hp) (by simp)
      have es : ((List.range P).map fun q => if q ∈ T0 then rD L.length ev else rD L.length (f q)).set p (rD L.length ev) = (List.range P).map fun q => if q ∈ T1 then rD L.length ev else rD L.length (f q) := by
        rw [set_rng]
        apply List.map_congr_left
        intro q hq
        by_cases e : q = p
        · have : q ∈ T1 := (ts q).mpr (.inr e)
          rw [if_pos e, if_pos this]
        · by_cases e2 : q ∈ T0
          · have : q ∈ T1 := (ts q).mpr (.inl e2)
            rw [if_neg e, if_pos e2, if_pos this]
          · have : q ∉ T1 := fun z => ((ts q).mp z).elim e2 e
            rw [if_neg e, if_neg e2, if_neg this]
      rw [es] at ep
      simp [ft, ep]
    · rintro s h ⟨rfl, rfl⟩
      rw [Th_next, List.take_length]
      have eX : ((List.range P).map fun q => if q ∈ pl L a then rD L.length ev else rD L.length (f q)) = (List.range P).map fun q => rD L.length (if q ∈ pl L a then ev else f q) := by
        apply List.map_congr_left
        intro q hq
        split <;> rfl
      rw [eX]
      generalize hf' : (fun q => if q ∈ pl L a then ev else f q) = f'
      have eX2 : ((List.range P).map fun q => rD L.length (if q ∈ pl L a then ev else f q)) = (List.range P).map fun q => rD L.length (f' q) := by rw [← hf']
      rw [eX2]
      have hgo : ∀ X : List Z.D, (H.set r (.lst X) ++ [.lst ((List.range P).map fun q => rD L.length (f' q)), E])[n]? = some (.ins 1 [aD P L, .ref r]) := fun X => by
        rw [List.getElem?_append_left (by simpa using hn), get_set_ne (Ne.symm hnr), hI]
      have hgl : ∀ X : List Z.D, (H.set r (.lst X) ++ [.lst ((List.range P).map fun q => rD L.length (f' q)), E])[r]? = some (.lst X) := fun X => by
        rw [List.getElem?_append_left (by simpa using hr), get_set_self hr]
      have ft2 : ∀ X : List Z.D, fTuple [.ref H.length] (H.set r (.lst X) ++ [.lst ((List.range P).map fun q => rD L.length (f' q)), E]) = .ok (.v (tD P L.length f')) (H.set r (.lst X) ++ [.lst ((List.range P).map fun q => rD L.length (f' q)), E]) := fun X => fTuple_q (asQ_ref (by
        have : H.length = (H.set r (.lst X)).length := by simp
        rw [this]
        simp))
      simp
      refine W_list nD (pl L a) (fun k s h => s = [some (.ref n), some (nD a), some (wD (pl L a)), some (.lst ((pl L a).map fun p => tD P L.length (mcL L w p))), none, some (.ref H.length), none, none, some (.ref (H.length + 1))] ∧ h = H.set r (.lst ((List.range P).map fun p => tD P L.length (if p ∈ (pl L a).take k then f' else mcL L w p))) ++ [.lst ((List.range P).map fun q => rD L.length (f' q)), E]) ⟨rfl, ?_⟩ (fun _ _ _ _ _ => by simp) ?_ ?_
      · have : ((List.range P).map fun p => tD P L.length (if p ∈ (pl L a).take 0 then f' else mcL L w p)) = rows P L.length (mcL L w) := by
          rw [List.take_zero]
          rfl
        rw [this, set_self hR]
      · rintro k s h hk ⟨rfl, rfl⟩
        refine ⟨_, _, rfl, ?_⟩
        have hp := la.lt _ (List.getElem_mem hk)
        have ts : ∀ q, q ∈ (pl L a).take (k + 1) ↔ q ∈ (pl L a).take k ∨ q = (pl L a)[k] := fun q => by rw [List.take_succ_eq_append_getElem hk, List.mem_append, List.mem_singleton]
        generalize (pl L a)[k] = p at *
        generalize (pl L a).take (k + 1) = T1 at *
        generalize (pl L a).take k = T0 at *
        have es : ((List.range P).map fun p => tD P L.length (if p ∈ T0 then f' else mcL L w p)).set p (tD P L.length f') = (List.range P).map fun p => tD P L.length (if p ∈ T1 then f' else mcL L w p) := by
          rw [set_rng]
          apply List.map_congr_left
          intro q hq
          by_cases e : q = p
          · have : q ∈ T1 := (ts q).mpr (.inr e)
            rw [if_pos e, if_pos this]
          · by_cases e2 : q ∈ T0
            · have : q ∈ T1 := (ts q).mpr (.inl e2)
              rw [if_neg e, if_pos e2, if_pos this]
            · have : q ∉ T1 := fun z => ((ts q).mp z).elim e2 e
              rw [if_neg e, if_neg e2, if_neg this]
        have ep := fPut_ls (b := H.length) (n := r) (H := H.set r (.lst ((List.range P).map fun p => tD P L.length (if p ∈ T0 then f' else mcL L w p))) ++ [.lst ((List.range P).map fun q => rD L.length (f' q)), E]) (xs := (List.range P).map fun p => tD P L.length (if p ∈ T0 then f' else mcL L w p)) (k := p) (v := tD P L.length f') (by
          rw [es, nrfO]
          exact nrfs_map _ (fun _ => nrf_tD P L.length _) _) (by simpa using hp) (hgl _)
        rw [es, List.set_append_left _ _ (by simpa using hr), List.set_set] at ep
        have q1 := hgo ((List.range P).map fun p => tD P L.length (if p ∈ T0 then f' else mcL L w p))
        have q2 := ft2 ((List.range P).map fun p => tD P L.length (if p ∈ T0 then f' else mcL L w p))
        generalize H.set r (.lst ((List.range P).map fun p => tD P L.length (if p ∈ T0 then f' else mcL L w p))) ++ [.lst ((List.range P).map fun q => rD L.length (f' q)), E] = Hx at *
        simp only [sPut_eq, sE_eq, ed_eq, eA_eq, aCons_eq, aNil_eq, eVar_eq, e1_eq, Res.bind_ok, List.getElem?_cons_succ, List.getElem?_cons_zero, List.set_cons_succ, List.set_cons_zero, q2, fFld_ref, q1]
        simp [ep]
      · rintro s h ⟨rfl, rfl⟩
        rw [List.take_length]
        have key : ((List.range P).map fun p => tD P L.length (if p ∈ pl L a then f' else mcL L w p)) = rows P L.length (mcL L (w ++ [a])) := by
          unfold rows
          apply List.map_congr_left
          intro p hp
          by_cases e : p ∈ pl L a
          · rw [if_pos e, ← hf']
            unfold tD
            congr 1
            apply List.map_congr_left
            intro q hq
            dsimp only
            by_cases e2 : q ∈ pl L a
            · rw [if_pos e2, ← hev]
              refine rD_congr fun b hb => ?_
              have := mc_yes' (pl := pl L) (w := w) e e2 (ne b hb)
              rw [mcL, this, ← hg, ← hf]
            · rw [if_neg e2, ← hf]
              refine rD_congr fun b hb => ?_
              exact (mc_half' (pl := pl L) (w := w) e e2 (ne b hb)).symm
          · rw [if_neg e]
            congr 1
            funext q b
            exact (mc_no (pl := pl L) e q b).symm
        rw [key]
        exact ⟨_, _, rfl⟩
/-- matrix.known(p, q, b) -/
theorem mknown_eq {p q b : Nat} (hp : p < P) (hq : q < P) (hb : b < L.length) (hI : H[n]? = some (.ins 1 [aD P L, .ref r])) (hR : H[r]? = some (.lst (rows P L.length (mcL L w)))) :
    callB B_Matrix_known [.ref n, nD p, nD q, nD b] H = .ok (.v (nD (mcL L w p q b))) H := by
  refine call_v rfl ?_
  unfold B_Matrix_known body S_Matrix_known
  have i1 := ix_rows (P := P) (n := L.length) (f := mcL L w) hp hR
  have i2 := ix_tD (P := P) (n := L.length) (f := mcL L w p) hq H
  have i3 := ix_rD (n := L.length) (f := mcL L w p q) hb H
  generalize tD P L.length (mcL L w p) = d1 at *
  generalize rD L.length (mcL L w p q) = d2 at *
  simp [hI, i1, i2, i3]
  exact ⟨_, rfl, by simp⟩
end
end K67
set_option Elab.async false
set_option linter.all false
set_option maxRecDepth 100000
set_option maxHeartbeats 2000000
/-! the ledger. -/
namespace K67
open PySem PySem.Spec L2 Z NV
theorem repA_eq (d : Z.D) {k : Nat} (hk : k ≤ 1000) (h : Own) : fMulA (.lst [d]) (nD k) h = .ok (.n (.lst (List.replicate k d))) h := by
  have e1 : fMul (.lst [d]) (nD k) h = .stuck := rfl
  have e2 : fRepL (.lst [d]) (nD k) h = .ok (.n (.lst (List.replicate k d))) h := by
    unfold fRepL
    have hc : R63 (k : Int) ∧ ([d] : List Z.D).length * (k : Int).toNat ≤ sizeLine := ⟨r63 (by omega), by simp; exact sz _ (by omega)⟩
    simp only [asL_lst]
    rw [if_pos hc]
    simp
  show (match fMul (.lst [d]) (nD k) h with | .stuck => fRepL (.lst [d]) (nD k) h | z => z) = _
  rw [e1]
  exact e2
abbrev lR (n : Nat) (f : Nat → Nat) : Z.D := .lst ((List.range n).map fun b => nD (f b))
def lrows (P n : Nat) (f : Nat → Nat → Nat) : List Z.D := (List.range P).map fun p => lR n (f p)
theorem nrf_lR (n : Nat) (f : Nat → Nat) : nrf (lR n f) = true := by rw [nrf]; exact nrfs_map (fun b => nD (f b)) (fun _ => rfl) _
theorem ix_lR {n k : Nat} {f : Nat → Nat} (hk : k < n) (h : Own) : fIx (lR n f) (nD k) h = .ok (.v (nD (f k))) h := fIx_q (k := k) rfl rfl (by rw [List.getElem?_map, List.getElem?_range hk]; rfl)
theorem ix_lrows {P n k r : Nat} {f : Nat → Nat → Nat} {H : Own} (hk : k < P) (e : H[r]? = some (.lst (lrows P n f))) : fIx (.ref r) (nD k) H = .ok (.v (lR n (f k))) H := fIx_q (k := k) (asQ_ref e) rfl (by rw [lrows, List.getElem?_map, List.getElem?_range hk]; rfl)
/-- Ledger(alphabet) -/
theorem linit_eq {P : Nat} {L : List (List Nat)} (A : Alph P L) (h : Own) : ∃ s, B_Ledger___init__ h.length [.ref h.length, aD P L] (h ++ [.ins 2 []]) = .next s (h ++ [.ins 2 [aD P L, .ref (h.length + 1)], .lst (lrows P L.length (lcL L []))]) := by
  have main : W (B_Ledger___init__ h.length [.ref h.length, aD P L] (h ++ [.ins 2 []])) fun r => ∃ s, r = .next s (h ++ [.ins 2 [aD P L, .ref (h.length + 1)], .lst (lrows P L.length (lcL L []))]) := by
    have h1 := A.p1
    have h2 := A.p2
    have h3 := A.l1
    have h4 := A.l2
    unfold B_Ledger___init__ body S_Ledger___init__
    simp only [W_seq]
    simp [aD, attD, r62 (show P ≤ 1000000 by omega)]
    have eC : compGo none (tN 2) bYes (ed (e2 fMulA (ed (eLst (aCons (eC (.int 0)) aNil))) (ed (eA fLen (aCons (ed (e1 (fFld [0] 1) (eVar 1))) aNil))))) h.length [some (.ref h.length), some (aD P L), none] (rngD 0 P) (h ++ [.ins 2 [aD P L]]) [] = .ok (.n (.lst (lrows P L.length (lcL L [])))) (h ++ [.ins 2 [aD P L]]) := by
      rw [comp_range (fun _ => true) (fun p => lR L.length (lcL L [] p)) P]
      · have : (List.range P).filter (fun _ => true) = List.range P := List.filter_eq_self.mpr fun _ _ => rfl
        rw [this]
        rfl
      · intro p hp
        refine ⟨_, rfl, rfl, fun _ => ?_⟩
        have e1 := repA_eq (.int 0) (k := L.length) (by omega) (h ++ [.ins 2 [aD P L]])
        have e2 : lR L.length (lcL L [] p) = .lst (List.replicate L.length (.int 0)) := by
          have h1 : (List.range L.length).map (fun b => nD (lcL L [] p b)) = (List.range L.length).map fun _ => Z.D.int 0 := rfl
          unfold lR
          rw [h1, List.map_const', List.length_range]
        rw [e2]
        simp [aD, e1, sz 1]
      · exact sz _ (by omega)
    rw [eC]
    simp [attD, W]
  exact main
section
variable {P : Nat} {L : List (List Nat)} {w : List Nat} {a n r : Nat} {H : Own}
/-- ledger.happen(a) -/
theorem lhappen_eq (A : Alph P L) (ha : a < L.length) (hI : H[n]? = some (.ins 2 [aD P L, .ref r])) (hR : H[r]? = some (.lst (lrows P L.length (lcL L w)))) :
    callB B_Ledger_happen [.ref n, nD a] H = .ok (.v .non) (H.set r (.lst (lrows P L.length (lcL L (w ++ [a]))))) := by
  have h1 := A.p1
  have h2 := A.p2
  have h3 := A.l1
  have h4 := A.l2
  have hn := lt_of_get hI
  have hr := lt_of_get hR
  have la : Lett P (pl L a) := A.le _ (List.mem_of_getElem? (pl_of ha))
  have ne : ∀ b, b < L.length → pl L b ≠ [] := fun b hb => (A.le _ (List.mem_of_getElem? (pl_of hb))).ne
  have lsh := la.sh
  have ipl : ∀ h, fIx (.tup (L.map wD)) (nD a) h = _ := fun h => ix_pl h ha
  refine call_nx (by simp) ?_
  unfold B_Ledger_happen body S_Ledger_happen
  refine W_step (s' := [some (.ref n), some (nD a), some (wD (pl L a)), none, none, none]) (h' := H) (by simp [hI, aD, ipl]) ?_
  refine W_step (s' := [some (.ref n), some (nD a), some (wD (pl L a)), some (.ref H.length), none, none]) (h' := H ++ [.lst []]) (by simp [sz 0]) ?_
  simp only [W_seq]
  simp [List.getElem?_append_left hn, hI, aD, r62 (show L.length ≤ 1000000 by omega)]
  refine W_range L.length (fun k s h => s = [some (.ref n), some (nD a), some (wD (pl L a)), some (.ref H.length), none, none] ∧ h = H ++ [.lst ((List.range k).map fun b => nD (mxl ((pl L a).map fun p => lcL L w p b)))]) ⟨rfl, rfl⟩ ?_ ?_
  · rintro k s h hk ⟨rfl, rfl⟩
    refine ⟨_, _, rfl, ?_⟩
    generalize hHk : H ++ [.lst ((List.range k).map fun b => nD (mxl ((pl L a).map fun p => lcL L w p b)))] = Hk
    have hget : Hk[H.length]? = some (.lst ((List.range k).map fun b => nD (mxl ((pl L a).map fun p => lcL L w p b)))) := by rw [← hHk]; simp
    have hlen : Hk.length = H.length + 1 := by rw [← hHk]; simp
    have hIk : Hk[n]? = some (.ins 2 [aD P L, .ref r]) := by rw [← hHk]; exact get_push hI
    have hRk : Hk[r]? = some (.lst (lrows P L.length (lcL L w))) := by rw [← hHk]; exact get_push hR
    have em : fMax [.lst ((pl L a).map fun p => nD (lcL L w p k))] Hk = .ok (.v (nD (mxl ((pl L a).map fun p => lcL L w p k)))) Hk := by
      have := fMax_ints (ns := ((pl L a).map fun p => lcL L w p k).map fun x : Nat => (x : Int)) (m := ((mxl ((pl L a).map fun p => lcL L w p k) : Nat) : Int)) (List.mem_map.mpr ⟨_, mxl_mem (by simpa using la.ne), rfl⟩) (fun y hy => by
        obtain ⟨x, hx, rfl⟩ := List.mem_map.mp hy
        have := mxl_le x hx
        omega) Hk
      rw [List.map_map, List.map_map] at this
      exact this
    have eC : compGo none (tN 5) bYes (ed (e2 fIx (ed (e2 fIx (ed (e1 (fFld [2] 1) (eVar 0))) (eVar 5))) (eVar 4))) H.length [some (.ref n), some (nD a), some (wD (pl L a)), some (.ref H.length), some (nD k), none] ((pl L a).map nD) Hk [] = .ok (.n (.lst ((pl L a).map fun p => nD (lcL L w p k)))) Hk := by
      rw [comp_pure nD (fun _ => true) (fun p => nD (lcL L w p k)) (by simp) (pl L a) [] ?_ (sz _ (by simp; omega))]
      · have : (pl L a).filter (fun _ => true) = pl L a := List.filter_eq_self.mpr fun _ _ => rfl
        rw [this]
        rfl
      · intro p hp
        refine ⟨_, rfl, rfl, fun _ => ?_⟩
        have i1 := ix_lrows (P := P) (n := L.length) (f := lcL L w) (la.lt p hp) hRk
        have i2 := ix_lR (f := lcL L w p) hk Hk
        generalize lR L.length (lcL L w p) = d at *
        simp [hIk, i1, i2]
    simp [eC, em, hget, szl (show k ≤ 1000000 by omega), putO_own (Nat.le_refl _)]
    rw [← hHk]
    simp [List.range_succ]
  · rintro s h ⟨rfl, rfl⟩
    rw [Th_next]
    generalize hg : (fun b => mxl ((pl L a).map fun p => lcL L w p b)) = g
    have e0 : ((List.range L.length).map fun b => nD (mxl ((pl L a).map fun p => lcL L w p b))) = (List.range L.length).map fun b => nD (g b) := by rw [← hg]
    rw [e0]
    generalize hH2 : H ++ [.lst ((List.range L.length).map fun b => nD (g b))] = H2
    have g2 : H2[H.length]? = some (.lst ((List.range L.length).map fun b => nD (g b))) := by rw [← hH2]; simp
    have eg : fGet (.ref H.length) (.int (a : Int)) H2 = some (nD (g a)) := fGet_lst g2 (by rw [List.getElem?_map, List.getElem?_range ha]; rfl)
    have ep : fPut H.length (.ref H.length) (.int (a : Int)) (.int ((g a : Int) + 1)) H2 = some (H ++ [.lst ((List.range L.length).map fun b => nD (g b + if a = b then 1 else 0))]) := by
      rw [fPut_lst (Nat.le_refl _) (by simpa using ha) g2, set_rng, ← hH2, hp_set0]
      congr 3
      simp only [List.set_cons_zero, List.cons.injEq, and_true, O.lst.injEq]
      apply List.map_congr_left
      intro b hb
      by_cases e : b = a
      · subst e
        simp
      · have : ¬ a = b := fun z => e z.symm
        simp [e, this]
    refine W_step (s' := [some (.ref n), some (nD a), some (wD (pl L a)), some (.ref H.length), none, none]) (h' := H ++ [.lst ((List.range L.length).map fun b => nD (g b + if a = b then 1 else 0))]) (by simp [eg, ep]) ?_
    generalize hev : (fun b => g b + if a = b then 1 else 0) = ev
    have e1 : ((List.range L.length).map fun b => nD (g b + if a = b then 1 else 0)) = (List.range L.length).map fun b => nD (ev b) := by rw [← hev]
    rw [e1]
    clear e0 g2 eg ep
    have hnr : n ≠ r := by rintro rfl; rw [hI] at hR; cases hR
    generalize hE : O.lst ((List.range L.length).map fun b => nD (ev b)) = E
    have hgo : ∀ X : List Z.D, (H.set r (.lst X) ++ [E])[n]? = some (.ins 2 [aD P L, .ref r]) := fun X => by
      rw [List.getElem?_append_left (by simpa using hn), get_set_ne (Ne.symm hnr), hI]
    have hgl : ∀ X : List Z.D, (H.set r (.lst X) ++ [E])[r]? = some (.lst X) := fun X => by
      rw [List.getElem?_append_left (by simpa using hr), get_set_self hr]
    have ft2 : ∀ X : List Z.D, fList [.ref H.length] (H.set r (.lst X) ++ [E]) = .ok (.n (.lst ((List.range L.length).map fun b => nD (ev b)))) (H.set r (.lst X) ++ [E]) := fun X => by
      have : H.length = (H.set r (.lst X)).length := by simp
      rw [this, ← hE]
      simp
    simp
    refine W_list nD (pl L a) (fun k s h => s = [some (.ref n), some (nD a), some (wD (pl L a)), some (.ref H.length), none, none] ∧ h = H.set r (.lst ((List.range P).map fun p => lR L.length (if p ∈ (pl L a).take k then ev else lcL L w p))) ++ [E]) ⟨rfl, ?_⟩ (fun _ _ _ _ _ => by simp) ?_ ?_
    · have : ((List.range P).map fun p => lR L.length (if p ∈ (pl L a).take 0 then ev else lcL L w p)) = lrows P L.length (lcL L w) := by
        rw [List.take_zero]
        rfl
      rw [this, set_self hR]
    · rintro k s h hk ⟨rfl, rfl⟩
      refine ⟨_, _, rfl, ?_⟩
      have hp := la.lt _ (List.getElem_mem hk)
      have ts : ∀ q, q ∈ (pl L a).take (k + 1) ↔ q ∈ (pl L a).take k ∨ q = (pl L a)[k] := fun q => by rw [List.take_succ_eq_append_getElem hk, List.mem_append, List.mem_singleton]
      generalize (pl L a)[k] = p at *
      generalize (pl L a).take (k + 1) = T1 at *
      generalize (pl L a).take k = T0 at *
      have es : ((List.range P).map fun p => lR L.length (if p ∈ T0 then ev else lcL L w p)).set p (lR L.length ev) = (List.range P).map fun p => lR L.length (if p ∈ T1 then ev else lcL L w p) := by
        rw [set_rng]
        apply List.map_congr_left
        intro q hq
        by_cases e : q = p
        · have : q ∈ T1 := (ts q).mpr (.inr e)
          rw [if_pos e, if_pos this]
        · by_cases e2 : q ∈ T0
          · have : q ∈ T1 := (ts q).mpr (.inl e2)
            rw [if_neg e, if_pos e2, if_pos this]
          · have : q ∉ T1 := fun z => ((ts q).mp z).elim e2 e
            rw [if_neg e, if_neg e2, if_neg this]
      have ep := fPut_ls (b := H.length) (n := r) (H := H.set r (.lst ((List.range P).map fun p => lR L.length (if p ∈ T0 then ev else lcL L w p))) ++ [E]) (xs := (List.range P).map fun p => lR L.length (if p ∈ T0 then ev else lcL L w p)) (k := p) (v := lR L.length ev) (by
        rw [es, nrfO]
        exact nrfs_map _ (fun _ => nrf_lR L.length _) _) (by simpa using hp) (hgl _)
      rw [es, List.set_append_left _ _ (by simpa using hr), List.set_set] at ep
      have q1 := hgo ((List.range P).map fun p => lR L.length (if p ∈ T0 then ev else lcL L w p))
      have q2 := ft2 ((List.range P).map fun p => lR L.length (if p ∈ T0 then ev else lcL L w p))
      generalize H.set r (.lst ((List.range P).map fun p => lR L.length (if p ∈ T0 then ev else lcL L w p))) ++ [E] = Hx at *
      simp only [sPut_eq, sE_eq, ed_eq, eA_eq, aCons_eq, aNil_eq, eVar_eq, e1_eq, Res.bind_ok, List.getElem?_cons_succ, List.getElem?_cons_zero, List.set_cons_succ, List.set_cons_zero, q2, frzO_lst, fFld_ref, q1]
      simp [ep]
    · rintro s h ⟨rfl, rfl⟩
      rw [List.take_length]
      have key : ((List.range P).map fun p => lR L.length (if p ∈ pl L a then ev else lcL L w p)) = lrows P L.length (lcL L (w ++ [a])) := by
        unfold lrows
        apply List.map_congr_left
        intro p hp
        have : ∀ f g : Nat → Nat, (∀ b, b < L.length → f b = g b) → lR L.length f = lR L.length g := fun f g e => by
          unfold lR
          rw [List.map_congr_left fun b hb => by rw [e b (List.mem_range.mp hb)]]
        by_cases e : p ∈ pl L a
        · rw [if_pos e, ← hev, ← hg]
          refine this _ _ fun b hb => ?_
          exact (lc_yes' (pl := pl L) (w := w) e (ne b hb)).symm
        · rw [if_neg e]
          refine this _ _ fun b hb => ?_
          exact (lc_no (pl := pl L) e b).symm
      rw [key]
      exact ⟨_, _, rfl⟩
theorem lknown_eq {p b : Nat} (hp : p < P) (hb : b < L.length) (hI : H[n]? = some (.ins 2 [aD P L, .ref r])) (hR : H[r]? = some (.lst (lrows P L.length (lcL L w)))) :
    callB B_Ledger_known [.ref n, nD p, nD b] H = .ok (.v (nD (lcL L w p b))) H := by
  refine call_v rfl ?_
  unfold B_Ledger_known body S_Ledger_known
  have i1 := ix_lrows (P := P) (n := L.length) (f := lcL L w) hp hR
  have i3 := ix_lR (n := L.length) (f := lcL L w p) hb H
  generalize lR L.length (lcL L w p) = d1 at *
  simp [hI, i1, i3]
  exact ⟨_, rfl, by simp⟩
end
/-- gathered(alphabet, word) -/
theorem gathered_eq {P : Nat} {L : List (List Nat)} {w : List Nat} (A : Alph P L) (fw : Fit L w) (h : Own) : callB B_gathered [aD P L, wD w] h = .ok (.n (.lst ((List.range P).map fun p => rD L.length (lcL L w p)))) h := by
  have h1 := A.p1
  have h2 := A.p2
  have h3 := A.l1
  have h4 := A.l2
  refine call_r (by rw [nrfO]; exact nrfs_map _ (fun p => nrf_rD _ _) _) rfl ?_
  obtain ⟨si, ei⟩ := linit_eq A h
  unfold B_gathered body S_gathered
  refine W_step (s' := [some (aD P L), some (wD w), some (.ref h.length), none, none, none]) (h' := h ++ [.ins 2 [aD P L, .ref (h.length + 1)], .lst (lrows P L.length (lcL L []))]) (by
    simp only [sSet_eq, sE_eq, ed_eq, eMkK_eq, aCons_eq, aNil_eq, eVar_eq, Res.bind_ok, List.map_cons, List.map_nil, List.cons_append, List.nil_append, List.getElem?_cons_zero, List.getElem?_cons_succ]
    simp [ei]) ?_
  simp only [W_seq]
  simp
  refine W_list nD w (fun k s H => ∃ y, s = [some (aD P L), some (wD w), some (.ref h.length), y, none, none] ∧ H = h ++ [.ins 2 [aD P L, .ref (h.length + 1)], .lst (lrows P L.length (lcL L (w.take k)))]) ⟨_, rfl, by simp⟩ (fun _ _ _ _ _ => by simp) ?_ ?_
  · rintro k s H hk ⟨y, rfl, rfl⟩
    refine ⟨_, _, rfl, ?_⟩
    have ha := fw.at hk
    have e1 := lhappen_eq (P := P) (L := L) (w := w.take k) (a := w[k]) (n := h.length) (r := h.length + 1) (H := h ++ [.ins 2 [aD P L, .ref (h.length + 1)], .lst (lrows P L.length (lcL L (w.take k)))]) A ha (by simp) (by simp)
    rw [← List.take_succ_eq_append_getElem hk, hp_setk] at e1
    generalize w[k] = a at *
    simp [e1]
  · rintro s H ⟨y, rfl, rfl⟩
    rw [Th_next, List.take_length]
    generalize hH0 : h ++ [.ins 2 [aD P L, .ref (h.length + 1)], .lst (lrows P L.length (lcL L w))] = H0
    have g1 : H0[h.length]? = some (.ins 2 [aD P L, .ref (h.length + 1)]) := by rw [← hH0]; simp
    have g2 : H0[h.length + 1]? = some (.lst (lrows P L.length (lcL L w))) := by rw [← hH0]; simp
    have hl0 : H0.length = h.length + 2 := by rw [← hH0]; simp
    refine W_step (s' := [some (aD P L), some (wD w), some (.ref h.length), y, some (.ref (h.length + 2)), none]) (h' := H0 ++ [.lst []]) (by simp [sz 0, hl0]) ?_
    simp only [W_seq]
    simp [aD, r62 (show P ≤ 1000000 by omega)]
    refine W_range P (fun k s H => ∃ y, s = [some (aD P L), some (wD w), some (.ref h.length), y, some (.ref (h.length + 2)), none] ∧ H = H0 ++ [.lst ((List.range k).map fun p => rD L.length (lcL L w p))]) ⟨_, rfl, rfl⟩ ?_ ?_
    · rintro k s H hk ⟨y, rfl, rfl⟩
      refine ⟨_, _, rfl, ?_⟩
      generalize hHk : H0 ++ [.lst ((List.range k).map fun p => rD L.length (lcL L w p))] = Hk
      have k1 : Hk[h.length]? = some (.ins 2 [aD P L, .ref (h.length + 1)]) := by rw [← hHk]; exact get_push g1
      have k2 : Hk[h.length + 1]? = some (.lst (lrows P L.length (lcL L w))) := by rw [← hHk]; exact get_push g2
      have k3 : Hk[h.length + 2]? = some (.lst ((List.range k).map fun p => rD L.length (lcL L w p))) := by rw [← hHk, ← hl0]; simp
      have eC : compGo none (tN 3) bYes (ed (eMeth clN 2 3 B_Ledger_known (eVar 2) (aCons (eVar 5) (aCons (eVar 3) aNil)))) h.length [some (aD P L), some (wD w), some (.ref h.length), none, some (.ref (h.length + 2)), some (nD k)] (rngD 0 L.length) Hk [] = .ok (.n (.lst ((List.range L.length).map fun b => nD (lcL L w k b)))) Hk := by
        rw [comp_range (fun _ => true) (fun b => nD (lcL L w k b)) L.length]
        · have : (List.range L.length).filter (fun _ => true) = List.range L.length := List.filter_eq_self.mpr fun _ _ => rfl
          rw [this]
        · intro b hb
          refine ⟨_, rfl, rfl, fun _ => ?_⟩
          have e1 := lknown_eq hk hb k1 k2
          simp [k1, e1]
        · exact sz _ (by omega)
      have hrd : Z.D.tup ((List.range L.length).map fun b => nD (lcL L w k b)) = rD L.length (lcL L w k) := by
        rw [rD, wD, List.map_map]
        rfl
      simp [r62 (show L.length ≤ 1000000 by omega), eC, k3, szl (show k ≤ 1000000 by omega), putO_own (show h.length ≤ h.length + 2 by omega), hrd]
      rw [← hHk, ← hl0, hp_set0]
      simp [List.range_succ]
    · rintro s H ⟨y, rfl, rfl⟩
      simp
      refine ⟨_, _, rfl, by omega, by rw [← hl0]; simp, ?_⟩
      rw [List.take_append_of_le_length (by omega), ← hH0]
      simp
end K67
set_option Elab.async false
set_option linter.all false
set_option maxRecDepth 100000
/-! V4: the first word that leads to a goal, sought level by level: plain. -/
namespace NV
open CL
section
variable {κ : Type} [DecidableEq κ] {n : Nat} {nx : κ → Nat → κ} {k0 : κ} {G : κ → Bool}
/-- where a word leads -/
def st (nx : κ → Nat → κ) (k0 : κ) (w : List Nat) : κ := w.foldl nx k0
theorem st_snoc (w : List Nat) (a : Nat) : st nx k0 (w ++ [a]) = nx (st nx k0 w) a := by
  unfold st
  rw [List.foldl_append]
  rfl
theorem run_st (w : List Nat) : ∀ k : κ, run (fun k a => some (nx k a)) k w = some (st nx k w) := by
  induction w with
  | nil => intro k; rfl
  | cons a w ih => intro k; exact ih (nx k a)
/-- a level -/
structure Lv (n : Nat) (nx : κ → Nat → κ) (k0 : κ) (G : κ → Bool) (j : Nat) (lv : List (List Nat)) (sn : List κ) : Prop where
  len : ∀ u ∈ lv, u.length = j ∧ ∀ a ∈ u, a < n
  srt : lv.Pairwise fun u v => lx u v = true
  low : ∀ w : List Nat, (∀ a ∈ w, a < n) → w.length < j → G (st nx k0 w) = false
  ng : ∀ s ∈ sn, G s = false
  cov : ∀ w : List Nat, (∀ a ∈ w, a < n) → w.length = j → (∃ u ∈ lv, st nx k0 u = st nx k0 w ∧ (u = w ∨ lx u w = true)) ∨ st nx k0 w ∈ sn
  cl : ∀ s ∈ sn, ∀ a, a < n → nx s a ∈ sn ∨ ∃ u ∈ lv, st nx k0 u = nx s a
/-- i words of a level are through -/
structure Sc (n : Nat) (nx : κ → Nat → κ) (k0 : κ) (G : κ → Bool) (j : Nat) (lv : List (List Nat)) (sn0 : List κ) (i : Nat) (sn : List κ) (lg : List (List Nat)) : Prop where
  base : Lv n nx k0 G j lv sn0
  ng : ∀ u ∈ lv.take i, G (st nx k0 u) = false
  sub : ∀ s ∈ sn0, s ∈ sn
  inn : ∀ u ∈ lv.take i, st nx k0 u ∈ sn
  frm : ∀ s ∈ sn, s ∈ sn0 ∨ ∃ u ∈ lv.take i, st nx k0 u = s
  lgf : ∀ v ∈ lg, ∃ u ∈ lv.take i, ∃ a, a < n ∧ v = u ++ [a]
  lgs : lg.Pairwise fun u v => lx u v = true
  exp : ∀ u ∈ lv.take i, st nx k0 u ∈ sn0 ∨ ∃ u' ∈ lv.take i, st nx k0 u' = st nx k0 u ∧ (u' = u ∨ lx u' u = true) ∧ ∀ a, a < n → u' ++ [a] ∈ lg
theorem Lv.zero : Lv n nx k0 G 0 [[]] [] := by
  refine ⟨fun u hu => ?_, by simp, fun w _ h => by omega, fun s h => (by cases h), fun w _ h => ?_, fun s h => (by cases h)⟩
  · rw [List.mem_singleton.mp hu]
    exact ⟨rfl, fun a h => (by cases h)⟩
  · have : w = [] := List.length_eq_zero_iff.mp h
    subst this
    exact .inl ⟨[], by simp, rfl, .inl rfl⟩
variable {j i : Nat} {lv lg : List (List Nat)} {sn sn0 : List κ}
theorem Sc.zero (h : Lv n nx k0 G j lv sn0) : Sc n nx k0 G j lv sn0 0 sn0 [] :=
  ⟨h, by simp, fun _ h => h, by simp, fun _ h => .inl h, by simp, .nil, by simp⟩
theorem mem_take_succ {α : Type} {l : List α} {i : Nat} (hi : i < l.length) {x : α} : x ∈ l.take (i + 1) ↔ x ∈ l.take i ∨ x = l[i] := by
  rw [List.take_succ_eq_append_getElem hi, List.mem_append, List.mem_singleton]
theorem before {R : List Nat → List Nat → Prop} (h : lv.Pairwise R) (hi : i < lv.length) {u : List Nat} (hu : u ∈ lv.take i) : R u lv[i] := by
  obtain ⟨k, hk, e⟩ := List.mem_iff_getElem.mp hu
  rw [List.getElem_take] at e
  rw [List.length_take] at hk
  have := List.pairwise_iff_getElem.mp h k i (by omega) hi (by omega)
  rw [e] at this
  exact this
theorem Sc.old (h : Sc n nx k0 G j lv sn0 i sn lg) (hi : i < lv.length) (hg : G (st nx k0 lv[i]) = false) (hs : st nx k0 lv[i] ∈ sn) : Sc n nx k0 G j lv sn0 (i + 1) sn lg := by
  have up : ∀ u, u ∈ lv.take i → u ∈ lv.take (i + 1) := fun u hu => (mem_take_succ hi).mpr (.inl hu)
  refine ⟨h.base, fun u hu => ?_, h.sub, fun u hu => ?_, fun s q => ?_, fun v hv => ?_, h.lgs, fun u hu => ?_⟩
  · rcases (mem_take_succ hi).mp hu with hu | rfl
    · exact h.ng u hu
    · exact hg
  · rcases (mem_take_succ hi).mp hu with hu | rfl
    · exact h.inn u hu
    · exact hs
  · rcases h.frm s q with q | ⟨u, hu, e⟩
    · exact .inl q
    · exact .inr ⟨u, up u hu, e⟩
  · obtain ⟨u, hu, r⟩ := h.lgf v hv
    exact ⟨u, up u hu, r⟩
  · rcases (mem_take_succ hi).mp hu with hu | rfl
    · rcases h.exp u hu with q | ⟨u', h1, h2⟩
      · exact .inl q
      · exact .inr ⟨u', up _ h1, h2⟩
    · rcases h.frm _ hs with q | ⟨u, hu, e⟩
      · exact .inl q
      · rcases h.exp u hu with q | ⟨u', h1, h2, h3, h4⟩
        · exact .inl (e ▸ q)
        · exact .inr ⟨u', up _ h1, h2.trans e, .inr (before h.base.srt hi h1), h4⟩
theorem Sc.new (h : Sc n nx k0 G j lv sn0 i sn lg) (hi : i < lv.length) (hg : G (st nx k0 lv[i]) = false) : Sc n nx k0 G j lv sn0 (i + 1) (sn ++ [st nx k0 lv[i]]) (lg ++ (List.range n).map fun a => lv[i] ++ [a]) := by
  have up : ∀ u, u ∈ lv.take i → u ∈ lv.take (i + 1) := fun u hu => (mem_take_succ hi).mpr (.inl hu)
  refine ⟨h.base, fun u hu => ?_, fun s q => List.mem_append_left _ (h.sub s q), fun u hu => ?_, fun s q => ?_, fun v hv => ?_, ?_, fun u hu => ?_⟩
  · rcases (mem_take_succ hi).mp hu with hu | rfl
    · exact h.ng u hu
    · exact hg
  · rcases (mem_take_succ hi).mp hu with hu | rfl
    · exact List.mem_append_left _ (h.inn u hu)
    · simp
  · rcases List.mem_append.mp q with q | q
    · rcases h.frm s q with q | ⟨u, hu, e⟩
      · exact .inl q
      · exact .inr ⟨u, up u hu, e⟩
    · exact .inr ⟨lv[i], (mem_take_succ hi).mpr (.inr rfl), (List.mem_singleton.mp q).symm⟩
  · rcases List.mem_append.mp hv with hv | hv
    · obtain ⟨u, hu, r⟩ := h.lgf v hv
      exact ⟨u, up u hu, r⟩
    · obtain ⟨a, ha, rfl⟩ := List.mem_map.mp hv
      exact ⟨lv[i], (mem_take_succ hi).mpr (.inr rfl), a, List.mem_range.mp ha, rfl⟩
  · rw [List.pairwise_append]
    refine ⟨h.lgs, ?_, fun u hu v hv => ?_⟩
    · rw [List.pairwise_map]
      exact List.pairwise_lt_range.imp fun q => lx_last _ q
    · obtain ⟨u', hu', a, _, rfl⟩ := h.lgf u hu
      obtain ⟨b, _, rfl⟩ := List.mem_map.mp hv
      refine lx_app ?_ (before h.base.srt hi hu')
      rw [(h.base.len u' (List.mem_of_mem_take hu')).1, (h.base.len lv[i] (List.getElem_mem hi)).1]
  · rcases (mem_take_succ hi).mp hu with hu | rfl
    · rcases h.exp u hu with q | ⟨u', h1, h2, h3, h4⟩
      · exact .inl q
      · exact .inr ⟨u', up _ h1, h2, h3, fun a ha => List.mem_append_left _ (h4 a ha)⟩
    · exact .inr ⟨lv[i], (mem_take_succ hi).mpr (.inr rfl), rfl, .inl rfl, fun a ha => List.mem_append_right _ (List.mem_map.mpr ⟨a, List.mem_range.mpr ha, rfl⟩)⟩
theorem Sc.done (h : Sc n nx k0 G j lv sn0 lv.length sn lg) : Lv n nx k0 G (j + 1) lg sn := by
  obtain ⟨b, ng, sub, inn, frm, lgf, lgs, exp⟩ := h
  rw [List.take_length] at ng inn frm lgf exp
  refine ⟨fun v hv => ?_, lgs, fun w hw hl => ?_, fun s q => ?_, fun w hw hl => ?_, fun s q a ha => ?_⟩
  · obtain ⟨u, hu, a, ha, rfl⟩ := lgf v hv
    obtain ⟨l1, l2⟩ := b.len u hu
    refine ⟨by simp [l1], fun c hc => ?_⟩
    rcases List.mem_append.mp hc with hc | hc
    · exact l2 c hc
    · rw [List.mem_singleton.mp hc]; exact ha
  · by_cases e : w.length = j
    · rcases b.cov w hw e with ⟨u, hu, e1, _⟩ | q
      · rw [← e1]; exact ng u hu
      · exact b.ng _ q
    · exact b.low w hw (by omega)
  · rcases frm s q with q | ⟨u, hu, rfl⟩
    · exact b.ng s q
    · exact ng u hu
  · rcases List.eq_nil_or_concat w with rfl | ⟨w0, a, rfl⟩
    · simp at hl
    · rw [List.concat_eq_append] at hw hl ⊢
      have hw0 : ∀ c ∈ w0, c < n := fun c hc => hw c (List.mem_append_left _ hc)
      have ha : a < n := hw a (by simp)
      have hl0 : w0.length = j := by simpa using hl
      rw [st_snoc]
      have old : st nx k0 w0 ∈ sn0 → nx (st nx k0 w0) a ∈ sn := fun q => by
        rcases b.cl _ q a ha with q | ⟨u, hu, e⟩
        · exact sub _ q
        · rw [← e]; exact inn u hu
      rcases b.cov w0 hw0 hl0 with ⟨u, hu, e1, e2⟩ | q
      · rcases exp u hu with q | ⟨u', h1, h2, h3, h4⟩
        · exact .inr (old (e1 ▸ q))
        · refine .inl ⟨u' ++ [a], h4 a ha, by rw [st_snoc, h2, e1], ?_⟩
          have lu : u'.length = w0.length := by rw [(b.len u' h1).1, hl0]
          have : u' = w0 ∨ lx u' w0 = true := by
            rcases h3 with rfl | h3
            · exact e2
            · rcases e2 with rfl | e2
              · exact .inr h3
              · exact .inr (lx_trans h3 e2)
          rcases this with rfl | this
          · exact .inl rfl
          · exact .inr (lx_app lu this)
      · exact .inr (old q)
  · have old : s ∈ sn0 → nx s a ∈ sn := fun q => by
      rcases b.cl _ q a ha with q | ⟨u, hu, e⟩
      · exact sub _ q
      · rw [← e]; exact inn u hu
    rcases frm s q with q | ⟨u, hu, rfl⟩
    · exact .inl (old q)
    · rcases exp u hu with q | ⟨u', h1, h2, h3, h4⟩
      · exact .inl (old q)
      · exact .inr ⟨u' ++ [a], h4 a ha, by rw [st_snoc, h2]⟩
/-- what both searches answer -/
structure Fst (n : Nat) (nx : κ → Nat → κ) (k0 : κ) (G : κ → Bool) (r : Option (List Nat)) : Prop where
  yes : ∀ v, r = some v → (∀ a ∈ v, a < n) ∧ G (st nx k0 v) = true ∧ ∀ w : List Nat, (∀ a ∈ w, a < n) → G (st nx k0 w) = true → v = w ∨ Sh v w
  no : r = none → ∀ w : List Nat, (∀ a ∈ w, a < n) → G (st nx k0 w) = false
theorem Fst.uniq {r r' : Option (List Nat)} (a : Fst n nx k0 G r) (b : Fst n nx k0 G r') : r = r' := by
  cases e : r with
  | none =>
    cases e' : r' with
    | none => rfl
    | some v =>
      obtain ⟨h1, h2, _⟩ := b.yes v e'
      rw [a.no e v h1] at h2
      cases h2
  | some u =>
    obtain ⟨h1, h2, h3⟩ := a.yes u e
    cases e' : r' with
    | none =>
      rw [b.no e' u h1] at h2
      cases h2
    | some v =>
      obtain ⟨k1, k2, k3⟩ := b.yes v e'
      rcases h3 v k1 k2 with rfl | s1
      · rfl
      · rcases k3 u h1 h2 with rfl | s2
        · rfl
        · exact absurd (s1.trans s2) Sh.irr
theorem Sc.found (h : Sc n nx k0 G j lv sn0 i sn lg) (hi : i < lv.length) (hg : G (st nx k0 lv[i]) = true) : Fst n nx k0 G (some lv[i]) := by
  have hm := List.getElem_mem hi
  refine ⟨fun v hv => ?_, fun z => by cases z⟩
  cases hv
  refine ⟨(h.base.len _ hm).2, hg, fun w hw g => ?_⟩
  have lm := (h.base.len _ hm).1
  by_cases e1 : w.length < j
  · rw [h.base.low w hw e1] at g; cases g
  · by_cases e2 : w.length = j
    · rcases h.base.cov w hw e2 with ⟨u, hu, e, s⟩ | q
      · obtain ⟨k, hk, rfl⟩ := List.mem_iff_getElem.mp hu
        have hik : i ≤ k := by
          apply Classical.byContradiction
          intro hki
          have : lv[k] ∈ lv.take i := List.mem_iff_getElem.mpr ⟨k, by rw [List.length_take]; omega, by rw [List.getElem_take]⟩
          rw [← e, h.ng _ this] at g
          cases g
        by_cases e3 : i = k
        · subst e3
          rcases s with s | s
          · exact .inl s
          · exact .inr (.inr ⟨by omega, s⟩)
        · have s2 : lx lv[i] lv[k] = true := List.pairwise_iff_getElem.mp h.base.srt i k hi hk (by omega)
          rcases s with s | s
          · exact .inr (.inr ⟨by omega, s ▸ s2⟩)
          · exact .inr (.inr ⟨by omega, lx_trans s2 s⟩)
      · rw [h.base.ng _ q] at g; cases g
    · exact .inr (.inl (by omega))
/-- the search by a queue -/
theorem Fst.of_ans {r : Option (List Nat)} (A : Ans n (fun k a => some (nx k a)) k0 G r i) (hN : ∃ N, (Ds n (fun k a => some (nx k a)) k0 N)[N]? = none) (hst : ∀ i, ∀ x ∈ Ds n (fun k a => some (nx k a)) k0 i, st nx k0 x.2 = x.1) : Fst n nx k0 G r := by
  have least := fun w hw g => A.least hN (w := w) hw (run_st w k0) g
  constructor
  · intro v hv
    rcases A.is with ⟨k, w, e1, e2, e3⟩ | ⟨_, e3⟩
    · rw [hv] at e3
      cases e3
      have hm := List.mem_of_getElem? e1
      refine ⟨Ds_ltr i _ hm, by rw [hst i _ hm]; exact e2, fun w hw g => ?_⟩
      obtain ⟨t, ht, s⟩ := least w hw g
      rw [hv] at ht
      cases ht
      exact s
    · rw [hv] at e3; cases e3
  · intro hr w hw
    cases g : G (st nx k0 w) with
    | false => rfl
    | true =>
      obtain ⟨t, ht, _⟩ := least w hw g
      rw [hr] at ht
      cases ht
/-- what is discovered is where its word leads -/
theorem ex1_st {k : κ} {w : List Nat} {ws : Ws κ} {l : Nat} (hk : st nx k0 w = k) (h : ∀ x ∈ ws, st nx k0 x.2 = x.1) : ∀ x ∈ ex1 (fun k a => some (nx k a)) k w ws l, st nx k0 x.2 = x.1 := by
  intro x hx
  unfold ex1 at hx
  dsimp only at hx
  split at hx
  · exact h x hx
  · rcases List.mem_append.mp hx with hx | hx
    · exact h x hx
    · rw [List.mem_singleton.mp hx, st_snoc, hk]
theorem exs_st {k : κ} {w : List Nat} {ws : Ws κ} (hk : st nx k0 w = k) (h : ∀ x ∈ ws, st nx k0 x.2 = x.1) : ∀ m, ∀ x ∈ exs (fun k a => some (nx k a)) k w ws m, st nx k0 x.2 = x.1
  | 0 => h
  | m + 1 => by rw [exs_succ]; exact ex1_st hk (exs_st hk h m)
theorem Ds_st : ∀ i, ∀ x ∈ Ds n (fun k a => some (nx k a)) k0 i, st nx k0 x.2 = x.1
  | 0 => by
    intro x hx
    rw [Ds, List.mem_singleton] at hx
    rw [hx]
    rfl
  | i + 1 => by
    cases e : (Ds n (fun k a => some (nx k a)) k0 i)[i]? with
    | none =>
      have : Ds n (fun k a => some (nx k a)) k0 (i + 1) = Ds n (fun k a => some (nx k a)) k0 i := by rw [Ds, e]
      rw [this]
      exact Ds_st i
    | some p =>
      obtain ⟨k, w⟩ := p
      rw [Ds_succ e]
      exact exs_st (Ds_st i _ (List.mem_of_getElem? e)) (Ds_st i) n
theorem Ds_stall {nx : κ → Nat → Option κ} {U : List κ} (h : ∀ i, ∀ x ∈ Ds n nx k0 i, x.1 ∈ U) : ∀ N, U.length ≤ N → (Ds n nx k0 N)[N]? = none := by
  intro N hN
  rw [List.getElem?_eq_none_iff]
  have := nodup_len (Ds_nodup (n := n) (nx := nx) (k0 := k0) N) (U := U) fun k hk => by
    obtain ⟨x, hx, rfl⟩ := List.mem_map.mp hk
    exact h N x hx
  rw [List.length_map] at this
  omega
end
/-! sets of places -/
def subs : Nat → List (List Nat)
  | 0 => [[]]
  | n + 1 => subs n ++ (subs n).map (· ++ [n])
theorem mem_subs (p : Nat → Bool) : ∀ n, (List.range n).filter p ∈ subs n
  | 0 => by simp [subs]
  | n + 1 => by
    rw [List.range_succ, List.filter_append, subs, List.mem_append]
    have ih := mem_subs p n
    cases h : p n with
    | true => exact .inr (List.mem_map.mpr ⟨_, ih, by simp [h]⟩)
    | false => exact .inl (by simpa [h] using ih)
theorem subs_len : ∀ n, (subs n).length = 2 ^ n
  | 0 => rfl
  | n + 1 => by rw [subs, List.length_append, List.length_map, subs_len n, Nat.pow_succ]; omega
section
variable {pl : Nat → List Nat} {P : Nat}
/-- a set of places, written down in order -/
def NK (P : Nat) (k : List Nat) : Prop := ∃ p : Nat → Bool, k = (List.range P).filter p
theorem NK.nk {k : List Nat} (h : NK P k) (a : Nat) : NK P (nk pl P k a) := by
  unfold NV.nk
  split
  · exact ⟨_, rfl⟩
  · exact h
theorem NK.nd {k : List Nat} (h : NK P k) : k.Nodup := by
  obtain ⟨p, rfl⟩ := h
  exact List.nodup_range.filter _
theorem NK.lt {k : List Nat} (h : NK P k) : ∀ p ∈ k, p < P := by
  obtain ⟨p, rfl⟩ := h
  intro q hq
  exact List.mem_range.mp (List.mem_filter.mp hq).1
theorem NK.len {k : List Nat} (h : NK P k) : k.length ≤ P := by
  obtain ⟨p, rfl⟩ := h
  exact Nat.le_trans (List.length_filter_le _ _) (by simp)
theorem NK.ext {k l : List Nat} (h : NK P k) (h' : NK P l) (e : ∀ p, p ∈ k ↔ p ∈ l) : k = l := by
  obtain ⟨p, rfl⟩ := h
  obtain ⟨q, rfl⟩ := h'
  apply List.filter_congr
  intro x hx
  have := e x
  rw [List.mem_filter, List.mem_filter] at this
  rw [Bool.eq_iff_iff]
  exact ⟨fun z => (this.mp ⟨hx, z⟩).2, fun z => (this.mpr ⟨hx, z⟩).2⟩
theorem NK.st {k0 : List Nat} (h : NK P k0) (w : List Nat) : NK P (NV.st (NV.nk pl P) k0 w) := by
  induction w generalizing k0 with
  | nil => exact h
  | cons a w ih => exact ih (h.nk a)
/-- a word that leads there by at most P letters -/
theorem short (w : List Nat) : ∀ k, NK P k → ∃ w' : List Nat, (∀ a ∈ w', a ∈ w) ∧ st (nk pl P) k w' = st (nk pl P) k w ∧ w'.length + k.length ≤ (st (nk pl P) k w).length := by
  induction w with
  | nil => intro k h; exact ⟨[], by simp, rfl, by simp [NV.st]⟩
  | cons a w ih =>
    intro k h
    obtain ⟨w1, h1, h2, h3⟩ := ih _ (h.nk (pl := pl) a)
    obtain ⟨l1, l2⟩ := nk_len (pl := pl) (a := a) h.nd h.lt
    have same : nk pl P k a = k → ∃ w' : List Nat, (∀ b ∈ w', b ∈ a :: w) ∧ st (nk pl P) k w' = st (nk pl P) k (a :: w) ∧ w'.length + k.length ≤ (st (nk pl P) k (a :: w)).length := fun e => by
      refine ⟨w1, fun b hb => List.mem_cons_of_mem _ (h1 b hb), ?_, ?_⟩
      · rw [e] at h2
        rw [h2]
        show _ = NV.st (nk pl P) (nk pl P k a) w
        rw [e]
      · show _ ≤ (NV.st (nk pl P) (nk pl P k a) w).length
        rw [e] at h3 ⊢
        exact h3
    rcases l2 with e | e | ⟨_, e⟩
    · exact same e
    · refine ⟨a :: w1, fun b hb => ?_, h2, ?_⟩
      · rcases List.mem_cons.mp hb with rfl | hb
        · exact List.mem_cons_self
        · exact List.mem_cons_of_mem _ (h1 b hb)
      · show _ ≤ (NV.st (nk pl P) (nk pl P k a) w).length
        simp only [List.length_cons]
        omega
    · exact same ((h.nk a).ext h e)
/-- no goal on P levels: none at all -/
theorem none_of {n : Nat} {k0 : List Nat} {G : List Nat → Bool} {lv : List (List Nat)} {sn : List (List Nat)} (h : NK P k0) (l : Lv n (nk pl P) k0 G (P + 1) lv sn) : Fst n (nk pl P) k0 G none := by
  refine ⟨fun v e => (by cases e), fun _ w hw => ?_⟩
  obtain ⟨w', h1, h2, h3⟩ := short (pl := pl) w k0 h
  have := (NK.st (pl := pl) h w).len
  rw [← h2]
  exact l.low w' (fun a ha => hw a (h1 a ha)) (by omega)
theorem KS_NK (x : Nat) (w : List Nat) : NK P (KS pl P x w) := ⟨_, rfl⟩
theorem KS_st {x : Nat} {t : List Nat} (w : List Nat) (hw : ∀ a ∈ w, pl a ≠ [] ∧ ∀ p ∈ pl a, p < P) : KS pl P x (t ++ w) = st (nk pl P) (KS pl P x t) w := by
  induction w generalizing t with
  | nil => rw [List.append_nil]; rfl
  | cons a w ih =>
    have := ih (t := t ++ [a]) fun b hb => hw b (List.mem_cons_of_mem _ hb)
    rw [List.append_assoc, List.singleton_append] at this
    rw [this, KS_snoc (hw a List.mem_cons_self).1 (hw a List.mem_cons_self).2]
    rfl
end
end NV
set_option Elab.async false
set_option linter.all false
set_option maxRecDepth 100000
set_option maxHeartbeats 2000000
/-! Z49: to compute with dicts whose keys are words. -/
namespace Z
open PySem PySem.Spec L2
def kW (w : List Nat) : List Key := w.map fun a : Nat => (Sum.inl (a : Int) : Key)
theorem kW_inj {u v : List Nat} (h : kW u = kW v) : u = v := by
  unfold kW at h
  induction u generalizing v with
  | nil =>
    cases v with
    | nil => rfl
    | cons b v => simp at h
  | cons a u ih =>
    cases v with
    | nil => simp at h
    | cons b v =>
      simp only [List.map_cons, List.cons.injEq, Sum.inl.injEq] at h
      rw [ih h.2, show a = b by omega]
@[simp] theorem asKs_wD (w : List Nat) : asKs (wD w) = some (kW w) := by
  show (w.map nD).mapM asK = _
  induction w with
  | nil => rfl
  | cons a w ih =>
    rw [List.map_cons, List.mapM_cons, ih]
    rfl
section
variable {υ : Type} (vD : υ → D)
def kdW (ws : List (List Nat × υ)) : List (List Key × D) := ws.map fun x => (kW x.1, vD x.2)
variable {vD}
@[simp] theorem kdW_len (ws : List (List Nat × υ)) : (kdW vD ws).length = ws.length := by simp [kdW]
theorem getD_kdW (ws : List (List Nat × υ)) (k : List Nat) : getD (kdW vD ws) (kW k) = (ws.find? fun x => decide (x.1 = k)).map fun x => vD x.2 := by
  induction ws with
  | nil => rfl
  | cons x ws ih =>
    unfold getD kdW at ih ⊢
    rw [List.map_cons, List.find?_cons, List.find?_cons]
    by_cases h : x.1 = k
    · subst h
      simp
    · have : (kW x.1 = kW k) = False := by
        rw [eq_iff_iff, iff_false]
        exact fun e => h (kW_inj e)
      simp only [this, decide_false, h]
      exact ih
theorem putD_new {ws : List (List Nat × υ)} {k : List Nat} {v : υ} (h : k ∉ ws.map (·.1)) : putD (kdW vD ws) (kW k) (vD v) = kdW vD (ws ++ [(k, v)]) := by
  unfold putD
  have e : ((kdW vD ws).any fun z => decide (z.1 = kW k)) = false := by
    rw [List.any_eq_false]
    intro z hz
    unfold kdW at hz
    obtain ⟨x, hx, rfl⟩ := List.mem_map.mp hz
    intro q
    exact h (List.mem_map.mpr ⟨x, hx, kW_inj (of_decide_eq_true q)⟩)
  rw [e]
  unfold kdW
  simp
section
variable {H : Own} {b n : Nat} {ws : List (List Nat × υ)} {k : List Nat} {v : υ}
theorem ix_kdW {i : Nat} (e : H[n]? = some (.dT (kdW vD ws))) (nd : (ws.map (·.1)).Nodup) (hi : ws[i]? = some (k, v)) : fIx (.ref n) (wD k) H = .ok (.v (vD v)) H := by
  have a : fIxQ (.ref n) (wD k) H = .stuck := by
    have q : asQ H (.ref n) = none := by
      unfold asQ asL
      simp [e]
    unfold fIxQ
    rw [q]
    try rfl
  have bb : fIxS (.ref n) (wD k) H = .stuck := rfl
  have c : fIxD (.ref n) (wD k) H = .ok (.v (vD v)) H := by
    unfold fIxD askD asD
    simp only [e, asKs_wD, Option.map_some, getD_kdW, find_key nd hi]
  show (match fIxQ (.ref n) (wD k) H with | .stuck => (orF fIxS fIxD) (.ref n) (wD k) H | z => z) = _
  rw [a]
  show (match fIxS (.ref n) (wD k) H with | .stuck => fIxD (.ref n) (wD k) H | z => z) = _
  rw [bb]
  exact c
theorem notIn_kdW (e : H[n]? = some (.dT (kdW vD ws))) : fNotIn (wD k) (.ref n) H = .ok (.v (.bl (!decide (k ∈ ws.map (·.1))))) H := by
  have h1 : fInQ true (wD k) (.ref n) H = .stuck := by
    unfold fInQ asQ asL
    simp [e]
  have t : ((ws.find? fun x => decide (x.1 = k)).map fun x => vD x.2).isSome = decide (k ∈ ws.map (·.1)) := by
    rw [Option.isSome_map, Bool.eq_iff_iff, List.find?_isSome, decide_eq_true_eq]
    constructor
    · rintro ⟨x, hx, e⟩
      exact List.mem_map.mpr ⟨x, hx, of_decide_eq_true e⟩
    · intro h
      obtain ⟨x, hx, e⟩ := List.mem_map.mp h
      exact ⟨x, hx, decide_eq_true e⟩
  have h2 : fInK true (wD k) (.ref n) H = .ok (.v (.bl (!decide (k ∈ ws.map (·.1))))) H := by
    unfold fInK askD asD
    simp only [e, asKs_wD, Option.map_some, getD_kdW]
    simp [t]
  show (match fInQ true (wD k) (.ref n) H with | .stuck => _ | z => z) = _
  rw [h1]
  dsimp only
  show (match fInK true (wD k) (.ref n) H with | .stuck => _ | z => z) = _
  rw [h2]
theorem put_kdW (hb : b ≤ n) (hl : ws.length ≤ 1000000) (e : H[n]? = some (.dT (kdW vD ws))) (h : k ∉ ws.map (·.1)) : fPut b (.ref n) (wD k) (vD v) H = some (H.set n (.dT (kdW vD (ws ++ [(k, v)])))) := by
  unfold fPut
  simp only [e, asKs_wD]
  have hk : (kdW vD ws).length < sizeLine := by rw [kdW_len]; exact szl hl
  rw [if_pos hk, putO_own hb, putD_new h]
end
end
/-- a sorted set of numbers -/
theorem sset_of {ns : List Int} {k : List Nat} (hs : k.Pairwise (· < ·)) (h : ∀ i : Int, i ∈ ns ↔ i ∈ k.map fun a : Nat => (a : Int)) : sset ns = k.map fun a : Nat => (a : Int) := by
  refine asc_uniq (sset_sorted ns) ?_ fun i => ?_
  · rw [List.pairwise_map]
    exact hs.imp fun h => by omega
  · rw [mem_sset, h]
end Z
set_option Elab.async false
set_option linter.all false
set_option maxRecDepth 100000
set_option maxHeartbeats 2000000
/-! telling: the package's search. -/
namespace K67
open PySem PySem.Spec L2 Z CL NV
section
variable {P : Nat} {L : List (List Nat)} {w : List Nat} {ev p : Nat}
theorem tru_refl {h : Own} {n : Nat} {ds : List Z.D} (e : h[n]? = some (.lst ds)) : tru h (.ref n) = some (!ds.isEmpty) := by
  unfold tru
  simp [e]
/-- a place knows -/
theorem knows_eq (hev : ev < w.length) (q : Nat) : has (vi L w q) ev = kn (pl L) w[ev] (w.drop (ev + 1)) q := by
  rw [Bool.eq_iff_iff, has_iff, vx_mem hev]
  rfl
abbrev kw (P : Nat) (L : List (List Nat)) (x : Nat) (t : List Nat) : List Nat := KS (pl L) P x t
abbrev nxo (P : Nat) (L : List (List Nat)) : List Nat → Nat → Option (List Nat) := fun k a => some (NV.nk (pl L) P k a)
abbrev Dz (P : Nat) (L : List (List Nat)) (k0 : List Nat) (i : Nat) : Ws (List Nat) := Ds L.length (nxo P L) k0 i
/-- ways and waiting within the heap -/
def HQ (h : Own) (ws : Ws (List Nat)) (wt : List (List Nat)) : Own := h ++ [.dT (kdW wD ws), .lst (wt.map wD)]
section
variable {h : Own} {ws ws' : Ws (List Nat)} {wt wt' : List (List Nat)}
theorem HQ_0 : (HQ h ws wt)[h.length]? = some (.dT (kdW wD ws)) := by simp [HQ]
theorem HQ_1 : (HQ h ws wt)[h.length + 1]? = some (.lst (wt.map wD)) := by simp [HQ]
theorem HQ_set0 : (HQ h ws wt).set h.length (.dT (kdW wD ws')) = HQ h ws' wt := by simp [HQ]
theorem HQ_set1 : (HQ h ws wt).set (h.length + 1) (.lst (wt'.map wD)) = HQ h ws wt' := by simp [HQ]
theorem HQ_take : (HQ h ws wt).take h.length = h := by simp [HQ]
theorem app_HQ {k : List Nat} (hl : wt.length ≤ 100000) : fAppend (.ref (h.length + 1)) [wD k] h.length (HQ h ws wt) = .ok (.v .non) (HQ h ws (wt ++ [k])) := by
  have := szl (n := wt.length) (by omega)
  have e : (HQ h ws wt).set (h.length + 1) (.lst ((wt ++ [k]).map wD)) = HQ h ws (wt ++ [k]) := HQ_set1
  rw [fAppend_eq, HQ_1]
  simp only [List.length_map, this, if_true, putO_lenk]
  rw [← e, List.map_append]
  rfl
end
theorem Dz_NK {k0 : List Nat} (h0 : NK P k0) (i : Nat) : ∀ x ∈ Dz P L k0 i, NK P x.1 :=
  Ds_all h0 (fun k l k' hk _ e => by cases e; exact hk.nk l) i
theorem ws_len {ws : Ws (List Nat)} (nd : (ws.map (·.1)).Nodup) (ok : ∀ x ∈ ws, NK P x.1) (hP : P ≤ 4) : ws.length ≤ 16 := by
  have := nodup_len nd (U := subs P) fun k hk => by
    obtain ⟨x, hx, rfl⟩ := List.mem_map.mp hk
    obtain ⟨q, e⟩ := ok x hx
    rw [e]
    exact mem_subs q P
  rw [List.length_map, subs_len] at this
  have : 2 ^ P ≤ 2 ^ 4 := Nat.pow_le_pow_right (by decide) hP
  omega
theorem Dz_stall {k0 : List Nat} (h0 : NK P k0) : ∃ N, (Dz P L k0 N)[N]? = none :=
  ⟨(subs P).length, Ds_stall (U := subs P) (fun i x hx => by
    obtain ⟨q, e⟩ := Dz_NK h0 i x hx
    rw [e]
    exact mem_subs q P) _ (Nat.le_refl _)⟩
/-- the code's next -/
theorem next_eq (A : Alph P L) {k : List Nat} (hk : NK P k) {a : Nat} (ha : a < L.length) : sset ((k ++ pl L a).map fun x : Nat => (x : Int)) = ((List.range P).filter fun p => k.contains p || (pl L a).contains p).map fun x : Nat => (x : Int) := by
  have la : Lett P (pl L a) := A.le _ (List.mem_of_getElem? (pl_of ha))
  refine sset_of (List.pairwise_lt_range.filter _) fun i => ?_
  have e : ∀ x : Nat, x ∈ k ++ pl L a ↔ x ∈ (List.range P).filter fun p => k.contains p || (pl L a).contains p := fun x => by
    rw [List.mem_append, List.mem_filter, List.mem_range, Bool.or_eq_true, List.contains_iff_mem, List.contains_iff_mem]
    constructor
    · rintro (z | z)
      · exact ⟨hk.lt x z, .inl z⟩
      · exact ⟨la.lt x z, .inr z⟩
    · exact fun z => z.2
  rw [List.mem_map, List.mem_map]
  constructor
  · rintro ⟨x, hx, rfl⟩
    exact ⟨x, (e x).mp hx, rfl⟩
  · rintro ⟨x, hx, rfl⟩
    exact ⟨x, (e x).mpr hx, rfl⟩
theorem any_eq {k there : List Nat} {g : ET} {x : ED} {b : Nat} {s : Sl} {h : Own} (hl : there.length ≤ 1000) (hs : ∀ q ∈ there, ∃ s1, g (nD q) ⟨b, s⟩ h = .next s1 h ∧ x ⟨b, s1⟩ h = .ok (.bl (has k q)) h) :
    compGo none g bYes x b s (there.map nD) h [] = .ok (.n (.lst ((there.map fun q => has k q).map .bl))) h := by
  rw [comp_pure nD (fun _ => true) (fun q => Z.D.bl (has k q)) (by simp) there [] (fun a ha => ?_) (sz _ (by simp; omega))]
  · have : there.filter (fun _ => true) = there := List.filter_eq_self.mpr fun _ _ => rfl
    rw [this, List.map_map]
    rfl
  · obtain ⟨s1, e1, e2⟩ := hs a ha
    exact ⟨s1, e1, rfl, fun _ => e2⟩
abbrev sl (P : Nat) (L : List (List Nat)) (w : List Nat) (ev p : Nat) (k0 : List Nat) (h : Own) (a8 a9 a10 a11 : Option Z.D) : Sl :=
  [some (aD P L), some (wD w), some (nD ev), some (nD p), some (wD k0), none, some (.ref h.length), some (.ref (h.length + 1)), a8, a9, a10, a11]
inductive LK (P : Nat) (L : List (List Nat)) (w : List Nat) (ev p : Nat) (k0 : List Nat) (h : Own) : Nat → Sl → Own → Prop
  | mk {M : Nat} (i : Nat) (hM : M + i = 100) (hi : i ≤ (Dz P L k0 i).length) (no : ∀ j, j < i → ∀ k u, (Dz P L k0 j)[j]? = some (k, u) → has k p = false) :
    LK P L w ev p k0 h M (sl P L w ev p k0 h none none none none) (HQ h (Dz P L k0 i) (((Dz P L k0 i).drop i).map (·.1)))
inductive LL (P : Nat) (L : List (List Nat)) (w : List Nat) (ev p : Nat) (k0 : List Nat) (h : Own) (i : Nat) (k : List Nat) (u : Wd) : Nat → Sl → Own → Prop
  | mk {l : Nat} : LL P L w ev p k0 h i k u l (sl P L w ev p k0 h (some (wD k)) none none none) (HQ h (exs (nxo P L) k u (Dz P L k0 i) l) (((exs (nxo P L) k u (Dz P L k0 i) l).drop (i + 1)).map (·.1)))
theorem telling_eq (A : Alph P L) (fw : Fit L w) (hev : ev < w.length) (h : Own) : ∃ r : Option (List Nat), Fst L.length (NV.nk (pl L) P) (kw P L w[ev] (w.drop (ev + 1))) (fun k => has k p) r ∧ callB B_telling [aD P L, wD w, nD ev, nD p] h = .ok (.v (match r with | some w => wD w | none => .non)) h := by
  have p1 := A.p1
  have p2 := A.p2
  have l1 := A.l1
  have l2 := A.l2
  obtain ⟨k0, hk0⟩ : ∃ k0, k0 = kw P L w[ev] (w.drop (ev + 1)) := ⟨_, rfl⟩
  rw [← hk0]
  have h0 : NK P k0 := hk0 ▸ KS_NK _ _
  have main : Z.W (B_telling h.length [aD P L, wD w, nD ev, nD p] h) fun R => ∃ d h1, R = .ret (.v d) h1 ∧ nrf d = true ∧ ((∃ (r : Option Wd) (i : Nat), Ans L.length (nxo P L) k0 (fun k => has k p) r i ∧ d = (match r with | some w => wD w | none => .non)) ∧ h1.take h.length = h) := by
    unfold B_telling body S_telling
    have s1 : (1 : Nat) ≤ sizeLine := by decide
    have cK : compGo none (tN 5) (eTB (e2 fIn (eVar 2) (ed (eCall 3 B_view (aCons (eVar 0) (aCons (eVar 1) (aCons (eVar 5) aNil))))))) (eVar 5) h.length [some (aD P L), some (wD w), some (nD ev), some (nD p), none, none, none, none, none, none, none, none] (rngD 0 P) h [] = .ok (.n (.lst (k0.map nD))) h := by
      rw [comp_range (kn (pl L) w[ev] (w.drop (ev + 1))) nD P]
      · rw [hk0]
        rfl
      · intro q hq
        refine ⟨_, rfl, ?_, fun _ => by simp⟩
        have c1 := view_eq (P := P) (p := q) fw h
        have c2 : fIn (nD ev) (.lst ((vi L w q).map nD)) h = .ok (.v (.bl (has (vi L w q) ev))) h := fIn_q' ev h rfl
        rw [knows_eq hev] at c2
        simp [c1, c2]
      · exact sz _ (by omega)
    refine W_step (s' := [some (aD P L), some (wD w), some (nD ev), some (nD p), some (wD k0), none, none, none, none, none, none, none]) (h' := h) (by
      have : (aD P L) = .obj 0 [nD P, .tup (L.map wD)] := rfl
      rw [this] at cK ⊢
      simp [r62 (show P ≤ 1000000 by omega), cK]) ?_
    refine W_step (s' := [some (aD P L), some (wD w), some (nD ev), some (nD p), some (wD k0), none, some (.ref h.length), none, none, none, none, none]) (h' := h ++ [.dT [(kW k0, .tup [])]]) (by
      have := asKs_wD k0
      generalize wD k0 = kd at *
      simp [this, sz 0]) ?_
    refine W_step (s' := sl P L w ev p k0 h none none none none) (h' := HQ h (Dz P L k0 0) (((Dz P L k0 0).drop 0).map (·.1))) ?_ ?_
    · have e : HQ h (Dz P L k0 0) (((Dz P L k0 0).drop 0).map (·.1)) = h ++ [.dT [(kW k0, .tup [])], .lst [wD k0]] := by simp [HQ, Ds, kdW]
      rw [e]
      unfold sl
      generalize wD k0 = kd at *
      simp [s1]
    rw [W_seq, sWh_eq]
    refine W_wh (LK P L w ev p k0 h) ?_ wMax 100 _ _ (by unfold wMax; omega) (.mk 0 rfl (Nat.zero_le _) (fun j hj => by omega))
    rintro M z H ⟨i, hM, hi, no⟩
    have lD : (Dz P L k0 i).length ≤ 16 := ws_len (Ds_nodup (n := L.length) (nx := nxo P L) (k0 := k0) i) (Dz_NK h0 i) p2
    have g1 := HQ_1 (h := h) (ws := Dz P L k0 i) (wt := ((Dz P L k0 i).drop i).map (·.1))
    cases e : (Dz P L k0 i)[i]? with
    | none =>
      have ed0 : (Dz P L k0 i).drop i = [] := List.drop_eq_nil_of_le (List.getElem?_eq_none_iff.mp e)
      have tk := HQ_take (h := h) (ws := Dz P L k0 i) (wt := ((Dz P L k0 i).drop i).map (·.1))
      rw [ed0] at g1 tk ⊢
      refine ⟨false, HQ h (Dz P L k0 i) (([] : Ws (List Nat)).map (·.1)), ?_, fun _ => ?_, fun q => by cases q⟩
      · have q := tru_refl g1
        generalize HQ h (Dz P L k0 i) (([] : Ws (List Nat)).map (·.1)) = H at *
        simp [sl, q]
      exact ⟨.non, _, rfl, rfl, ⟨none, i, ⟨no, .inr ⟨e, rfl⟩⟩, rfl⟩, tk⟩
    | some ku =>
      obtain ⟨k, u⟩ := ku
      have ed0 : (Dz P L k0 i).drop i = (k, u) :: (Dz P L k0 i).drop (i + 1) := by
        have hlt := (List.getElem?_eq_some_iff.mp e).1
        rw [List.drop_eq_getElem_cons hlt, (List.getElem?_eq_some_iff.mp e).2]
      have hlt : i < (Dz P L k0 i).length := (List.getElem?_eq_some_iff.mp e).1
      have hk : NK P k := Dz_NK h0 i _ (List.mem_of_getElem? e)
      have hkl := hk.len
      have hu : u.length ≤ i := Ds_wlen i _ (List.mem_of_getElem? e)
      rw [ed0] at g1 ⊢
      refine ⟨true, HQ h (Dz P L k0 i) (((k, u) :: (Dz P L k0 i).drop (i + 1)).map (·.1)), ?_, fun q => by (cases q), fun _ => ⟨M - 1, by omega, ?_⟩⟩
      · have q := tru_refl g1
        generalize HQ h (Dz P L k0 i) (((k, u) :: (Dz P L k0 i).drop (i + 1)).map (·.1)) = H at *
        simp [sl, q]
      have po : fPopAt (.ref (h.length + 1)) [.int 0] h.length (HQ h (Dz P L k0 i) (((k, u) :: (Dz P L k0 i).drop (i + 1)).map (·.1))) = .ok (.v (wD k)) (HQ h (Dz P L k0 i) (((Dz P L k0 i).drop (i + 1)).map (·.1))) := by
        have := fPopAt_eq (i := 0) (k := 0) (b := h.length) (y := wD k) g1 rfl (by decide) rfl (.inl (Nat.le_add_right _ _))
        rw [List.map_cons, List.map_cons, List.eraseIdx_cons_zero, HQ_set1] at this
        exact this
      refine W_step (s' := sl P L w ev p k0 h (some (wD k)) none none none) (h' := HQ h (Dz P L k0 i) (((Dz P L k0 i).drop (i + 1)).map (·.1))) ?_ ?_
      · generalize HQ h (Dz P L k0 i) (((Dz P L k0 i).drop (i + 1)).map (·.1)) = H1 at *
        generalize HQ h (Dz P L k0 i) (((k, u) :: (Dz P L k0 i).drop (i + 1)).map (·.1)) = H at *
        generalize wD k = kd at *
        simp [sl, g1, po]
      have wy := ix_kdW (HQ_0 (h := h) (ws := Dz P L k0 i) (wt := ((Dz P L k0 i).drop (i + 1)).map (·.1))) (Ds_nodup i) e
      have tk := HQ_take (h := h) (ws := Dz P L k0 i) (wt := ((Dz P L k0 i).drop (i + 1)).map (·.1))
      have hin := fIn_w k p (HQ h (Dz P L k0 i) (((Dz P L k0 i).drop (i + 1)).map (·.1)))
      cases hG : has k p with
      | true =>
        rw [hG] at hin
        have ret : (sIf (eTB (e2 fIn (eVar 3) (eVar 8))) (sRet (e2 fIx (eVar 6) (eVar 8))) sPass) ⟨h.length, sl P L w ev p k0 h (some (wD k)) none none none⟩ (HQ h (Dz P L k0 i) (((Dz P L k0 i).drop (i + 1)).map (·.1))) = .ret (.v (wD u)) (HQ h (Dz P L k0 i) (((Dz P L k0 i).drop (i + 1)).map (·.1))) := by
          generalize HQ h (Dz P L k0 i) (((Dz P L k0 i).drop (i + 1)).map (·.1)) = H1 at *
          generalize wD k = kd at *
          simp [sl, hin, wy]
        rw [W_seq, ret]
        exact ⟨_, _, rfl, nrf_wD _, ⟨some u, i, ⟨no, .inl ⟨k, u, e, hG, rfl⟩⟩, rfl⟩, tk⟩
      | false =>
        rw [hG] at hin
        refine W_step (s' := sl P L w ev p k0 h (some (wD k)) none none none) (h' := HQ h (Dz P L k0 i) (((Dz P L k0 i).drop (i + 1)).map (·.1))) ?_ ?_
        · generalize HQ h (Dz P L k0 i) (((Dz P L k0 i).drop (i + 1)).map (·.1)) = H1 at *
          generalize wD k = kd at *
          simp [sl, hin]
        have it : (iEnA (aCons (ed (e1 (fFld [0] 1) (eVar 0))) aNil)) ⟨h.length, sl P L w ev p k0 h (some (wD k)) none none none⟩ (HQ h (Dz P L k0 i) (((Dz P L k0 i).drop (i + 1)).map (·.1))) = .ok (L.zipIdx.map fun q => .tup [.int (q.2 : Int), wD q.1], none) (HQ h (Dz P L k0 i) (((Dz P L k0 i).drop (i + 1)).map (·.1))) := by
          have : (aD P L) = .obj 0 [nD P, .tup (L.map wD)] := rfl
          rw [← enD_map]
          simp [sl, this]
        rw [sFor_eq, sE_eq, it]
        dsimp only
        refine W_list (fun q : List Nat × Nat => Z.D.tup [.int (q.2 : Int), wD q.1]) L.zipIdx (LL P L w ev p k0 h i k u) .mk (fun _ _ _ _ _ => by simp) ?_ ?_
        · rintro l z H hl' ⟨⟩
          have hl : l < L.length := by simpa using hl'
          have eq1 : L.zipIdx[l] = (pl L l, l) := by
            have h2 := (List.getElem?_eq_some_iff.mp (pl_of hl)).2
            rw [List.getElem_zipIdx, h2]
            simp
          rw [eq1]
          have la : Lett P (pl L l) := A.le _ (List.mem_of_getElem? (pl_of hl))
          have lsh := la.sh
          have xk : (exs (nxo P L) k u (Dz P L k0 i) l)[i]? = some (k, u) := by
            obtain ⟨t, f⟩ := exs_pre (nx := nxo P L) k u (Dz P L k0 i) l
            rw [f, List.getElem?_append_left hlt]
            exact e
          have xnd := exs_nodup (nx := nxo P L) (k := k) (w := u) (Ds_nodup (n := L.length) (nx := nxo P L) (k0 := k0) i) l
          have xok : ∀ x ∈ exs (nxo P L) k u (Dz P L k0 i) l, NK P x.1 := exs_all l (fun l' k' hl' e' => by cases e'; exact hk.nk l') (Dz_NK h0 i)
          have xl := ws_len xnd xok p2
          have xi := (List.getElem?_eq_some_iff.mp xk).1
          have nxt := @LL.mk P L w ev p k0 h i k u (l + 1)
          rw [exs_succ] at nxt
          unfold ex1 at nxt
          dsimp only [nxo] at nxt
          have hk' : NK P (NV.nk (pl L) P k l) := hk.nk l
          have ne := next_eq A hk hl
          generalize exs (nxo P L) k u (Dz P L k0 i) l = X0 at *
          refine ⟨sl P L w ev p k0 h (some (wD k)) (some (nD l)) (some (wD (pl L l))) none, HQ h X0 ((X0.drop (i + 1)).map (·.1)), by simp [sl], ?_⟩
          refine W_step (s' := sl P L w ev p k0 h (some (wD k)) (some (nD l)) (some (wD (pl L l))) (some (wD k))) (h' := HQ h X0 ((X0.drop (i + 1)).map (·.1))) (by simp [sl]) ?_
          have mid : (sIf (eT (ed (eA fAny (aCons (ed (eComp (iSeq (eVar 10)) (tN 5) bYes (ed (e2 fIn (eVar 5) (eVar 8))) [5])) aNil)))) (sSet 11 (ed (eA fTuple (aCons (ed (eA fSSet (aCons (ed (e2 fAdd (eVar 8) (eVar 10))) aNil))) aNil)))) sPass) ⟨h.length, sl P L w ev p k0 h (some (wD k)) (some (nD l)) (some (wD (pl L l))) (some (wD k))⟩ (HQ h X0 ((X0.drop (i + 1)).map (·.1))) = .next (sl P L w ev p k0 h (some (wD k)) (some (nD l)) (some (wD (pl L l))) (some (wD (NV.nk (pl L) P k l)))) (HQ h X0 ((X0.drop (i + 1)).map (·.1))) := by
            generalize HQ h X0 ((X0.drop (i + 1)).map (·.1)) = H1 at *
            have ca := any_eq (k := k) (there := pl L l) (g := tN 5) (x := ed (e2 fIn (eVar 5) (eVar 8))) (b := h.length) (s := sl P L w ev p k0 h (some (wD k)) (some (nD l)) (some (wD (pl L l))) (some (wD k))) (h := H1) (by omega) (fun q hq => by
              have := fIn_w k q H1
              refine ⟨_, rfl, ?_⟩
              generalize wD k = kd at *
              simp [sl, this])
            have al := fAny_bls ((pl L l).map fun q => has k q) H1
            rw [List.any_map] at al
            have ec : ((pl L l).any (id ∘ fun q => has k q)) = (pl L l).any fun q => k.contains q := rfl
            rw [ec] at al
            have cs : fSSet [.tup (k.map nD ++ (pl L l).map nD)] H1 = .ok (.n (.lst (((List.range P).filter fun p => k.contains p || (pl L l).contains p).map nD))) H1 := by
              have := fSSet_eq (H := H1) (d := .tup (k.map nD ++ (pl L l).map nD)) (ns := (k ++ pl L l).map fun x : Nat => (x : Int)) (by
                rw [asQ_tup, List.map_append, List.map_append, List.map_map, List.map_map]
                rfl) (by simp; omega)
              rw [ne, List.map_map] at this
              exact this
            unfold NV.nk
            cases hq : (pl L l).any fun q => k.contains q with
            | true =>
              rw [hq] at al
              rw [if_pos rfl]
              have sk : k.length + (pl L l).length ≤ sizeLine := sz _ (by omega)
              generalize ((pl L l).map fun q => has k q).map Z.D.bl = bs at *
              simp [sl] at ca ⊢
              simp [ca, al, sk, cs]
            | false =>
              rw [hq] at al
              rw [if_neg (by decide)]
              generalize ((pl L l).map fun q => has k q).map Z.D.bl = bs at *
              simp [sl] at ca ⊢
              simp [ca, al]
          refine W_step mid ?_
          clear mid ne
          generalize NV.nk (pl L) P k l = k' at *
          have g0 := HQ_0 (h := h) (ws := X0) (wt := (X0.drop (i + 1)).map (·.1))
          have ni := notIn_kdW (vD := wD) (k := k') g0
          have wy := ix_kdW g0 xnd xk
          by_cases hin : k' ∈ X0.map (·.1)
          · rw [if_pos hin] at nxt
            rw [decide_eq_true hin] at ni
            have st : (sIf (eTB (e2 fNotIn (eVar 11) (eVar 6))) (sSeq (sPut (eVar 6) (eVar 11) (ed (e2 fAdd (ed (e2 fIx (eVar 6) (eVar 8))) (eTup (aCons (eVar 9) aNil)))))
  (sX (ed (eM "list" fAppend (eVar 7) (aCons (eVar 11) aNil))))) sPass) ⟨h.length, sl P L w ev p k0 h (some (wD k)) (some (nD l)) (some (wD (pl L l))) (some (wD k'))⟩ (HQ h X0 ((X0.drop (i + 1)).map (·.1))) = .next (sl P L w ev p k0 h (some (wD k)) (some (nD l)) (some (wD (pl L l))) (some (wD k'))) (HQ h X0 ((X0.drop (i + 1)).map (·.1))) := by
              generalize HQ h X0 ((X0.drop (i + 1)).map (·.1)) = H1 at *
              generalize wD k' = kd' at *
              simp [sl, ni]
            rw [st]
            exact nxt
          · rw [if_neg hin] at nxt
            rw [decide_eq_false hin] at ni
            have sw : u.length + 1 ≤ sizeLine := sz _ (by omega)
            have pu := put_kdW (vD := wD) (v := u ++ [l]) (b := h.length) (Nat.le_refl _) (by omega) g0 hin
            rw [HQ_set0] at pu
            have ap := app_HQ (h := h) (ws := X0 ++ [(k', u ++ [l])]) (wt := (X0.drop (i + 1)).map (·.1)) (k := k') (by simp; omega)
            have edr : ((X0 ++ [(k', u ++ [l])]).drop (i + 1)).map (·.1) = (X0.drop (i + 1)).map (·.1) ++ [k'] := by
              rw [List.drop_append_of_le_length (by omega), List.map_append]
              rfl
            rw [edr] at nxt
            have g3 := HQ_1 (h := h) (ws := X0 ++ [(k', u ++ [l])]) (wt := (X0.drop (i + 1)).map (·.1))
            have ew2 : Z.D.tup (u.map nD ++ [nD l]) = wD (u ++ [l]) := by simp [wD]
            have st : (sIf (eTB (e2 fNotIn (eVar 11) (eVar 6))) (sSeq (sPut (eVar 6) (eVar 11) (ed (e2 fAdd (ed (e2 fIx (eVar 6) (eVar 8))) (eTup (aCons (eVar 9) aNil)))))
  (sX (ed (eM "list" fAppend (eVar 7) (aCons (eVar 11) aNil))))) sPass) ⟨h.length, sl P L w ev p k0 h (some (wD k)) (some (nD l)) (some (wD (pl L l))) (some (wD k'))⟩ (HQ h X0 ((X0.drop (i + 1)).map (·.1))) = .next (sl P L w ev p k0 h (some (wD k)) (some (nD l)) (some (wD (pl L l))) (some (wD k'))) (HQ h (X0 ++ [(k', u ++ [l])]) ((X0.drop (i + 1)).map (·.1) ++ [k'])) := by
              generalize HQ h (X0 ++ [(k', u ++ [l])]) ((X0.drop (i + 1)).map (·.1) ++ [k']) = H3 at *
              generalize HQ h (X0 ++ [(k', u ++ [l])]) ((X0.drop (i + 1)).map (·.1)) = H2 at *
              generalize HQ h X0 ((X0.drop (i + 1)).map (·.1)) = H1 at *
              generalize wD (u ++ [l]) = ul at *
              generalize wD k' = kd' at *
              generalize wD k = kd at *
              simp [sl, sSeq, s1, ni, wy, sw, ew2, pu, g3, ap]
            rw [st]
            exact nxt
        · rintro z H ⟨⟩
          have en : exs (nxo P L) k u (Dz P L k0 i) L.zipIdx.length = Dz P L k0 (i + 1) := by
            rw [List.length_zipIdx]
            exact (Ds_succ e).symm
          rw [en]
          refine ⟨M - 1, Nat.le_refl _, .mk (i + 1) (by omega) ?_ fun j hj => ?_⟩
          · have : (Dz P L k0 i).length ≤ (Dz P L k0 (i + 1)).length := Ds_len (Nat.le_succ i)
            omega
          · rcases Nat.lt_or_eq_of_le (Nat.le_of_lt_succ hj) with q | q
            · exact no j q
            · subst q
              intro k' w' e'
              rw [e] at e'
              cases e'
              exact hG
  obtain ⟨d, h1, ⟨⟨r, i, a, rfl⟩, e1⟩, e2⟩ := call_x main
  refine ⟨r, Fst.of_ans a (Dz_stall h0) Ds_st, ?_⟩
  rw [e2, e1]
  cases r <;> rfl
end
end K67
set_option Elab.async false
set_option linter.all false
set_option maxRecDepth 100000
set_option maxHeartbeats 2000000
/-! telling: the law's search. -/
namespace K67
open PySem PySem.Spec L2 Z CL NV
theorem dec_t {p : Prop} {I : Decidable p} (h : p) : @decide p I = true := by
  cases I with
  | isTrue _ => rfl
  | isFalse n => exact absurd h n
theorem dec_f {p : Prop} {I : Decidable p} (h : ¬p) : @decide p I = false := by
  cases I with
  | isTrue n => exact absurd n h
  | isFalse _ => rfl
/-! keys: tuples of bools -/
def bD (bs : List Bool) : Z.D := .tup (bs.map .bl)
def bN (bs : List Bool) : NestedKey := .tup (bs.map fun b => .num (if b = true then 1 else 0))
theorem nks_bls : ∀ bs : List Bool, nks (bs.map Z.D.bl) = some (bs.map fun b => .num (if b = true then 1 else 0))
  | [] => rfl
  | b :: bs => by rw [List.map_cons, nks, nks_bls bs]; rfl
theorem nk_bD (bs : List Bool) : Z.nk (bD bs) = some (bN bs) := by
  unfold bD
  rw [Z.nk, nks_bls]
  rfl
theorem depth_bls : ∀ bs : List Bool, NestedKey.depthAll (bs.map fun b => .num (if b = true then 1 else 0)) = 0
  | [] => by simp [NestedKey.depthAll]
  | b :: bs => by
    rw [List.map_cons, NestedKey.depthAll, depth_bls bs]
    simp [NestedKey.depth]
theorem bls_inj : ∀ {as bs : List Bool}, (as.map fun b => NestedKey.num (if b = true then 1 else 0)) = (bs.map fun b => NestedKey.num (if b = true then 1 else 0)) → as = bs
  | [], [], _ => rfl
  | [], _ :: _, h => by simp at h
  | _ :: _, [], h => by simp at h
  | a :: as, b :: bs, h => by
    rw [List.map_cons, List.map_cons, List.cons.injEq] at h
    rw [bls_inj h.2]
    have := h.1
    cases a <;> cases b <;> simp at this ⊢
theorem nkb : NKy bD bN where
  nk := fun k => by
    have h := nk_bD k
    unfold keyN bD at *
    dsimp only
    rw [h]
    dsimp only
    rw [if_pos]
    unfold bN
    rw [NestedKey.depth, depth_bls]
    decide
  nk' := nk_bD
  inj := fun k l h => by
    unfold bN at h
    exact bls_inj (NestedKey.tup.inj h)
/-- what a set of places looks like -/
def bits (P : Nat) (s : List Nat) : List Bool := (List.range P).map fun q => has s q
theorem bits_inj {P : Nat} {s t : List Nat} (hs : NK P s) (ht : NK P t) (e : bits P s = bits P t) : s = t := by
  refine hs.ext ht fun q => ?_
  have key : q < P → has s q = has t q := fun hq => by
    have := congrArg (fun l => l[q]?) e
    simpa [bits, hq] using this
  constructor
  · intro z
    have := key (hs.lt q z)
    exact has_iff.mp (this ▸ has_iff.mpr z)
  · intro z
    have := key (ht.lt q z)
    exact has_iff.mp (this.symm ▸ has_iff.mpr z)
section
variable {P : Nat} {L : List (List Nat)} {w : List Nat} {ei p : Nat}
/-- seen within the heap -/
def HS (P : Nat) (h : Own) (sn : List (List Nat)) : Own := h ++ [.dN (kdN bD Z.D.bl (sn.map fun s => (bits P s, true)))]
theorem HS_0 {h : Own} {sn : List (List Nat)} : (HS P h sn)[h.length]? = some (.dN (kdN bD Z.D.bl (sn.map fun s => (bits P s, true)))) := by simp [HS]
theorem HS_take {h : Own} {sn : List (List Nat)} : (HS P h sn).take h.length = h := by simp [HS]
theorem seen_iff {sn : List (List Nat)} (hs : ∀ s ∈ sn, NK P s) {s : List Nat} (h : NK P s) : bits P s ∈ (sn.map fun s => (bits P s, true)).map (·.1) ↔ s ∈ sn := by
  rw [List.map_map]
  constructor
  · intro z
    obtain ⟨t, ht, e⟩ := List.mem_map.mp z
    rw [← bits_inj (hs t ht) h e]
    exact ht
  · intro z
    exact List.mem_map.mpr ⟨s, z, rfl⟩
theorem st_has (A : Alph P L) (hev : ei < w.length) (u : List Nat) (hu : ∀ a ∈ u, a < L.length) {q : Nat} (hq : q < P) :
    has (vi L (w ++ u) q) ei = has (st (NV.nk (pl L) P) (kw P L w[ei] (w.drop (ei + 1))) u) q := by
  have hev' : ei < (w ++ u).length := by rw [List.length_append]; omega
  rw [knows_eq hev', List.getElem_append_left hev, List.drop_append_of_le_length (by omega)]
  rw [← KS_st u fun a ha => by
    have la : Lett P (pl L a) := A.le _ (List.mem_of_getElem? (pl_of (hu a ha)))
    exact ⟨la.ne, la.lt⟩]
  rw [Bool.eq_iff_iff, has_iff]
  unfold KS
  rw [List.mem_filter, List.mem_range]
  exact ⟨fun z => ⟨hq, z⟩, fun z => z.2⟩
theorem law_telling_eq (A : Alph P L) (fw : Fit L w) (hwl : w.length ≤ 40) (hev : ei < w.length) (hp : p < P) (h : Own) : ∃ r : Option (List Nat), Fst L.length (NV.nk (pl L) P) (kw P L w[ei] (w.drop (ei + 1))) (fun k => has k p) r ∧ callB B__law_telling [nD P, lD L, wD w, nD ei, nD p] h = .ok (.v (match r with | some w => wD w | none => .non)) h := by
  have p1 := A.p1
  have p2 := A.p2
  have l1 := A.l1
  have l2 := A.l2
  have hp100 : ∀ l ∈ L, l.length ≤ 100 := fun l hl => by have := (A.le l hl).sh; omega
  obtain ⟨k0, hk0⟩ : ∃ k0, k0 = kw P L w[ei] (w.drop (ei + 1)) := ⟨_, rfl⟩
  have hst : ∀ u : List Nat, (∀ a ∈ u, a < L.length) → ∀ q, q < P → has (vi L (w ++ u) q) ei = has (st (NV.nk (pl L) P) k0 u) q := fun u hu q hq => by rw [hk0]; exact st_has A hev u hu hq
  rw [← hk0]
  have h0 : NK P k0 := hk0 ▸ KS_NK _ _
  have main : Z.W (B__law_telling h.length [nD P, lD L, wD w, nD ei, nD p] h) fun R => ∃ d h1, R = .ret (.v d) h1 ∧ nrf d = true ∧ ((∃ (r : Option Wd), Fst L.length (NV.nk (pl L) P) k0 (fun k => has k p) r ∧ d = (match r with | some w => wD w | none => .non)) ∧ h1.take h.length = h) := by
    unfold B__law_telling body S__law_telling
    have s1 : (1 : Nat) ≤ sizeLine := by decide
    refine W_step (s' := [some (nD P), some (lD L), some (wD w), some (nD ei), some (nD p), some (.lst ([[]].map wD)), some (.ref h.length), none, none, none, none, none, none]) (h' := HS P h []) (by simp [s1, sz 0, HS, kdN]) ?_
    rw [W_seq, sFor_eq, sE_eq]
    have it : (iR1 (aCons (ed (e2 fAdd (eVar 0) (eC (.int 1)))) aNil)) ⟨h.length, [some (nD P), some (lD L), some (wD w), some (nD ei), some (nD p), some (.lst ([[]].map wD)), some (.ref h.length), none, none, none, none, none, none]⟩ (HS P h []) = .ok (rngD 0 (P + 1), none) (HS P h []) := by
      have er : R62 ((P : Int) + 1) := r62i (by omega) (by omega)
      have et : ((P : Int) + 1).toNat = P + 1 := by omega
      simp [er, et]
    rw [it]
    dsimp only
    refine W_range (P + 1) (fun j s H => ∃ lv sn, Lv L.length (NV.nk (pl L) P) k0 (fun k => has k p) j lv sn ∧ sn.Nodup ∧ (∀ s ∈ sn, NK P s) ∧ s = [some (nD P), some (lD L), some (wD w), some (nD ei), some (nD p), some (.lst (lv.map wD)), some (.ref h.length), none, none, none, none, none, none] ∧ H = HS P h sn) ⟨[[]], [], Lv.zero, .nil, by simp, rfl, rfl⟩ ?_ ?_
    · rintro j s H hj ⟨lv, sn0, hL, nd0, nk0, rfl, rfl⟩
      refine ⟨_, _, rfl, ?_⟩
      have fin : ∀ sn : List (List Nat), sn.Nodup → (∀ s ∈ sn, NK P s) → sn.length ≤ 16 := fun sn nd ok => by
        have := ws_len (P := P) (ws := sn.map fun s => (s, [])) (by
          rw [List.map_map]
          show (sn.map fun s => s).Nodup
          rw [List.map_id']
          exact nd) (fun x hx => by
          obtain ⟨s, hs, rfl⟩ := List.mem_map.mp hx
          exact ok s hs) p2
        simpa using this
      refine W_step (s' := [some (nD P), some (lD L), some (wD w), some (nD ei), some (nD p), some (.lst (lv.map wD)), some (.ref h.length), some (nD j), some (.lst (([] : List (List Nat)).map wD)), none, none, none, none]) (h' := HS P h sn0) (by simp [sz 0]) ?_
      rw [W_seq, sFor_eq, sE_eq]
      have it2 : (iSeq (eVar 5)) ⟨h.length, [some (nD P), some (lD L), some (wD w), some (nD ei), some (nD p), some (.lst (lv.map wD)), some (.ref h.length), some (nD j), some (.lst (([] : List (List Nat)).map wD)), none, none, none, none]⟩ (HS P h sn0) = .ok (lv.map wD, none) (HS P h sn0) := by simp
      rw [it2]
      dsimp only
      refine W_list wD lv (fun i s H => ∃ sn lg, Sc L.length (NV.nk (pl L) P) k0 (fun k => has k p) j lv sn0 i sn lg ∧ sn.Nodup ∧ (∀ s ∈ sn, NK P s) ∧ lg.length + L.length * sn0.length = L.length * sn.length ∧ s = [some (nD P), some (lD L), some (wD w), some (nD ei), some (nD p), some (.lst (lv.map wD)), some (.ref h.length), some (nD j), some (.lst (lg.map wD)), none, none, none, none] ∧ H = HS P h sn) ⟨sn0, [], Sc.zero hL, nd0, nk0, by simp, rfl, rfl⟩ (fun _ _ _ _ _ => by simp) ?_ ?_
      · rintro i s H hi ⟨sn, lg, hS, nd, nks, hlg, rfl, rfl⟩
        have hm := hL.len _ (List.getElem_mem hi)
        have hold := hS.old hi
        have hnew := hS.new hi
        have hfnd := hS.found hi
        have hsn := fin sn nd nks
        generalize lv[i] = u at *
        refine ⟨[some (nD P), some (lD L), some (wD w), some (nD ei), some (nD p), some (.lst (lv.map wD)), some (.ref h.length), some (nD j), some (.lst (lg.map wD)), some (wD u), none, none, none], HS P h sn, rfl, ?_⟩
        obtain ⟨hul, hua⟩ := hm
        have fu : Fit L (w ++ u) := ⟨by rw [List.length_append]; omega, fun x hx => by
          rcases List.mem_append.mp hx with hx | hx
          · exact fw.mem x hx
          · exact hua x hx⟩
        have hwul : (w ++ u).length ≤ 60 := by rw [List.length_append]; omega
        have swu : w.length + u.length ≤ sizeLine := sz _ (by omega)
        have cv : ∀ q H, callB B__law_view [lD L, .tup (w.map nD ++ u.map nD), nD q] H = .ok (.n (.lst ((vi L (w ++ u) q).map nD))) H := fun q H => by
          have := law_view_eq (p := q) hp100 fu hwul H
          rw [wD, List.map_append] at this
          exact this
        have ci : ∀ q, q < P → ∀ H, fInA (nD ei) (.lst ((vi L (w ++ u) q).map nD)) H = .ok (.v (.bl (has (st (NV.nk (pl L) P) k0 u) q))) H := fun q hq H => by
          have := fIn_q' (w := vi L (w ++ u) q) (d := .lst ((vi L (w ++ u) q).map nD)) ei H rfl
          rw [hst u hua q hq] at this
          exact fInA_of this
        have ns : NK P (st (NV.nk (pl L) P) k0 u) := NK.st h0 u
        have cp := ci p hp (HS P h sn)
        have cvp := cv p (HS P h sn)
        cases hG : has (st (NV.nk (pl L) P) k0 u) p with
        | true =>
          rw [hG] at cp
          have ret : (sIf (eTB (e2 fInA (eVar 3) (ed (eCall 3 B__law_view (aCons (eVar 1) (aCons (ed (e2 fAdd (eVar 2) (eVar 9))) (aCons (eVar 4) aNil))))))) (sRet (ev (eVar 9))) sPass) ⟨h.length, [some (nD P), some (lD L), some (wD w), some (nD ei), some (nD p), some (.lst (lv.map wD)), some (.ref h.length), some (nD j), some (.lst (lg.map wD)), some (wD u), none, none, none]⟩ (HS P h sn) = .ret (.v (wD u)) (HS P h sn) := by
            generalize HS P h sn = H1 at *
            simp [swu, cvp, cp]
          rw [W_seq, ret]
          exact ⟨_, _, rfl, nrf_wD _, ⟨some u, hfnd hG, rfl⟩, HS_take⟩
        | false =>
          rw [hG] at cp
          refine W_step (s' := [some (nD P), some (lD L), some (wD w), some (nD ei), some (nD p), some (.lst (lv.map wD)), some (.ref h.length), some (nD j), some (.lst (lg.map wD)), some (wD u), none, none, none]) (h' := HS P h sn) (by
            generalize HS P h sn = H1 at *
            simp [swu, cvp, cp]) ?_
          have cK : compGo none (tN 11) bYes (ed (e2 fInA (eVar 3) (ed (eCall 3 B__law_view (aCons (eVar 1) (aCons (ed (e2 fAdd (eVar 2) (eVar 9))) (aCons (eVar 11) aNil))))))) h.length [some (nD P), some (lD L), some (wD w), some (nD ei), some (nD p), some (.lst (lv.map wD)), some (.ref h.length), some (nD j), some (.lst (lg.map wD)), some (wD u), none, none, none] (rngD 0 P) (HS P h sn) [] = .ok (.n (.lst ((bits P (st (NV.nk (pl L) P) k0 u)).map Z.D.bl))) (HS P h sn) := by
            rw [comp_range (fun _ => true) (fun q => Z.D.bl (has (st (NV.nk (pl L) P) k0 u) q)) P]
            · have : (List.range P).filter (fun _ => true) = List.range P := List.filter_eq_self.mpr fun _ _ => rfl
              rw [this]
              unfold bits
              rw [List.map_map]
              rfl
            · intro q hq
              refine ⟨_, rfl, rfl, fun _ => ?_⟩
              have c1 := ci q hq (HS P h sn)
              have c2 := cv q (HS P h sn)
              generalize HS P h sn = H1 at *
              simp [swu, c1, c2]
            · exact sz _ (by omega)
          refine W_step (s' := [some (nD P), some (lD L), some (wD w), some (nD ei), some (nD p), some (.lst (lv.map wD)), some (.ref h.length), some (nD j), some (.lst (lg.map wD)), some (wD u), some (bD (bits P (st (NV.nk (pl L) P) k0 u))), none, none]) (h' := HS P h sn) (by
            unfold bD
            generalize HS P h sn = H1 at *
            simp [r62 (show P ≤ 1000000 by omega), cK]) ?_
          have ni := fNotInA_kdN nkb (vD := Z.D.bl) (k := bits P (st (NV.nk (pl L) P) k0 u)) (HS_0 (P := P) (h := h) (sn := sn))
          by_cases hin : st (NV.nk (pl L) P) k0 u ∈ sn
          · replace ni : fNotInA (bD (bits P (st (NV.nk (pl L) P) k0 u))) (.ref h.length) (HS P h sn) = .ok (.v (.bl false)) (HS P h sn) := by
              rw [ni]
              congr 3
              rw [dec_t ((seen_iff nks ns).mpr hin)]
              rfl
            have e : (sIf (eTB (e2 fNotInA (eVar 10) (eVar 6))) (sSeq (sPutA (eVar 6) (eVar 10) (eC (.bl true)))
  (sSet 8 (ed (e2 fAdd (eVar 8) (ed (eComp (iR1 (aCons (ed (eA fLen (aCons (eVar 1) aNil))) aNil)) (tN 12) bYes (ed (e2 fAdd (eVar 9) (eTup (aCons (eVar 12) aNil)))) [12])))))) sPass) ⟨h.length, [some (nD P), some (lD L), some (wD w), some (nD ei), some (nD p), some (.lst (lv.map wD)), some (.ref h.length), some (nD j), some (.lst (lg.map wD)), some (wD u), some (bD (bits P (st (NV.nk (pl L) P) k0 u))), none, none]⟩ (HS P h sn) = .next [some (nD P), some (lD L), some (wD w), some (nD ei), some (nD p), some (.lst (lv.map wD)), some (.ref h.length), some (nD j), some (.lst (lg.map wD)), some (wD u), some (bD (bits P (st (NV.nk (pl L) P) k0 u))), none, none] (HS P h sn) := by
              generalize HS P h sn = H1 at *
              generalize bD (bits P (st (NV.nk (pl L) P) k0 u)) = kd at *
              simp [ni]
            rw [e]
            exact ⟨sn, lg, hold hG hin, nd, nks, hlg, rfl, rfl⟩
          · have hin' := fun z => hin ((seen_iff nks ns).mp z)
            replace ni : fNotInA (bD (bits P (st (NV.nk (pl L) P) k0 u))) (.ref h.length) (HS P h sn) = .ok (.v (.bl true)) (HS P h sn) := by
              rw [ni]
              congr 3
              rw [dec_f hin']
              rfl
            have pu := fPutA_kdN nkb (vD := Z.D.bl) (v := true) (b := h.length) (Nat.le_refl _) (by simp; omega) (HS_0 (P := P) (h := h) (sn := sn)) hin'
            have es : (HS P h sn).set h.length (.dN (kdN bD Z.D.bl ((sn.map fun s => (bits P s, true)) ++ [(bits P (st (NV.nk (pl L) P) k0 u), true)]))) = HS P h (sn ++ [st (NV.nk (pl L) P) k0 u]) := by simp [HS]
            rw [es] at pu
            have cL : compGo none (tN 12) bYes (ed (e2 fAdd (eVar 9) (eTup (aCons (eVar 12) aNil)))) h.length [some (nD P), some (lD L), some (wD w), some (nD ei), some (nD p), some (.lst (lv.map wD)), some (.ref h.length), some (nD j), some (.lst (lg.map wD)), some (wD u), some (bD (bits P (st (NV.nk (pl L) P) k0 u))), none, none] (rngD 0 L.length) (HS P h (sn ++ [st (NV.nk (pl L) P) k0 u])) [] = .ok (.n (.lst ((List.range L.length).map fun a => wD (u ++ [a])))) (HS P h (sn ++ [st (NV.nk (pl L) P) k0 u])) := by
              rw [comp_range (fun _ => true) (fun a => wD (u ++ [a])) L.length]
              · have : (List.range L.length).filter (fun _ => true) = List.range L.length := List.filter_eq_self.mpr fun _ _ => rfl
                rw [this]
              · intro a ha
                refine ⟨_, rfl, rfl, fun _ => ?_⟩
                have su : u.length + 1 ≤ sizeLine := sz _ (by omega)
                generalize HS P h (sn ++ [st (NV.nk (pl L) P) k0 u]) = H1 at *
                simp [su, s1]
              · exact sz _ (by omega)
            have hnd2 : (sn ++ [st (NV.nk (pl L) P) k0 u]).Nodup := by
              rw [List.nodup_append]
              refine ⟨nd, by simp, fun x hx y hy e => ?_⟩
              rw [List.mem_singleton] at hy
              subst hy
              subst e
              exact hin hx
            have hnk2 : ∀ s ∈ sn ++ [st (NV.nk (pl L) P) k0 u], NK P s := fun s hs => by
              rcases List.mem_append.mp hs with hs | hs
              · exact nks s hs
              · rw [List.mem_singleton.mp hs]; exact ns
            have hsn2 := fin _ hnd2 hnk2
            have hlg2 : (lg ++ (List.range L.length).map fun a => u ++ [a]).length + L.length * sn0.length = L.length * (sn ++ [st (NV.nk (pl L) P) k0 u]).length := by
              simp only [List.length_append, List.length_map, List.length_range, List.length_singleton, Nat.mul_add, Nat.mul_one]
              omega
            have hlgb : lg.length + L.length ≤ 1000 := by
              have : L.length * sn.length ≤ 6 * 16 := Nat.mul_le_mul l2 hsn
              omega
            have slg : lg.length + L.length ≤ sizeLine := sz _ (by omega)
            have elg : lg.map wD ++ (List.range L.length).map (fun a => wD (u ++ [a])) = (lg ++ (List.range L.length).map fun a => u ++ [a]).map wD := by
              rw [List.map_append, List.map_map]
              rfl
            have e : (sIf (eTB (e2 fNotInA (eVar 10) (eVar 6))) (sSeq (sPutA (eVar 6) (eVar 10) (eC (.bl true)))
  (sSet 8 (ed (e2 fAdd (eVar 8) (ed (eComp (iR1 (aCons (ed (eA fLen (aCons (eVar 1) aNil))) aNil)) (tN 12) bYes (ed (e2 fAdd (eVar 9) (eTup (aCons (eVar 12) aNil)))) [12])))))) sPass) ⟨h.length, [some (nD P), some (lD L), some (wD w), some (nD ei), some (nD p), some (.lst (lv.map wD)), some (.ref h.length), some (nD j), some (.lst (lg.map wD)), some (wD u), some (bD (bits P (st (NV.nk (pl L) P) k0 u))), none, none]⟩ (HS P h sn) = .next [some (nD P), some (lD L), some (wD w), some (nD ei), some (nD p), some (.lst (lv.map wD)), some (.ref h.length), some (nD j), some (.lst ((lg ++ (List.range L.length).map fun a => u ++ [a]).map wD)), some (wD u), some (bD (bits P (st (NV.nk (pl L) P) k0 u))), none, none] (HS P h (sn ++ [st (NV.nk (pl L) P) k0 u])) := by
              rw [← elg]
              generalize HS P h (sn ++ [st (NV.nk (pl L) P) k0 u]) = H2 at *
              generalize HS P h sn = H1 at *
              generalize bD (bits P (st (NV.nk (pl L) P) k0 u)) = kd at *
              generalize hnew2 : (List.range L.length).map (fun a => wD (u ++ [a])) = new at *
              have fl : fLen [lD L] H2 = .ok (.v (.int (L.length : Int))) H2 := by simp [lD]
              have hnl : new.length = L.length := by rw [← hnew2]; simp
              rw [← hnl] at slg
              simp [ni, pu, fl, r62 (show L.length ≤ 1000000 by omega), sSeq, cL, slg]
            rw [e]
            exact ⟨_, _, hnew hG, hnd2, hnk2, hlg2, rfl, rfl⟩
      · rintro s H ⟨sn, lg, hS, nd, nks, hlg, rfl, rfl⟩
        rw [Th_next]
        have e : (sSet 5 (eVar 8)) ⟨h.length, [some (nD P), some (lD L), some (wD w), some (nD ei), some (nD p), some (.lst (lv.map wD)), some (.ref h.length), some (nD j), some (.lst (lg.map wD)), none, none, none, none]⟩ (HS P h sn) = .next [some (nD P), some (lD L), some (wD w), some (nD ei), some (nD p), some (.lst (lg.map wD)), some (.ref h.length), some (nD j), some (.lst (lg.map wD)), none, none, none, none] (HS P h sn) := by simp
        rw [e]
        exact ⟨lg, sn, hS.done, nd, nks, rfl, rfl⟩
    · rintro s H ⟨lv, sn, hL, nd, nks, rfl, rfl⟩
      rw [Th_next]
      exact ⟨.non, _, rfl, rfl, ⟨none, none_of h0 hL, rfl⟩, HS_take⟩
  obtain ⟨d, h1, ⟨⟨r, a, rfl⟩, e1⟩, e2⟩ := call_x main
  refine ⟨r, a, ?_⟩
  rw [e2, e1]
  cases r <;> rfl
end
end K67
set_option Elab.async false
set_option linter.all false
set_option maxRecDepth 100000
set_option maxHeartbeats 1000000
/-! the law's sameness. -/
namespace K67
open PySem PySem.Spec L2 Z
@[simp] theorem tyD_bl {h : Own} {i : Bool} : tyD h (.bl i) = some "bool" := rfl
@[simp] theorem tyD_lst {h : Own} {i : List Z.D} : tyD h (.lst i) = some "list" := rfl
@[simp] theorem isN_bl {b : Bool} : isN (.bl b) = false := rfl
@[simp] theorem isN_lst {z : List Z.D} : isN (.lst z) = false := rfl
@[simp] theorem isN_non : isN .non = true := rfl
theorem all_true (n : Nat) (h : Own) : fAll [.lst ((List.replicate n (Z.D.bl true)))] h = .ok (.v (.bl true)) h := by
  have := fAll_bls (List.replicate n true) h
  rw [List.map_replicate] at this
  rw [this]
  simp
theorem same_pl : ∀ (k : Nat) (d : Z.D), pln k d = true → ∀ h, callB (B__law_same k) [d, d] h = .ok (.v (.bl true)) h
  | 0, _, e, _ => by cases e
  | k + 1, d, e, h => by
    refine call_v rfl ?_
    show W (body 3 (S__law_same (B__law_same k)) _ _ _) _
    unfold body S__law_same
    simp only [W_seq]
    cases d with
    | non => simp; exact ⟨_, rfl, by simp⟩
    | bl b =>
      have k1 : kitB "bool" "bool" = some true := rfl
      simp [k1, fEq_bb]
      exact ⟨_, rfl, by simp⟩
    | int i =>
      have k1 : kitB "int" "bool" = some false := rfl
      have k2 : kitB "int" "int" = some true := rfl
      simp [k1, k2]
      exact ⟨_, rfl, by simp⟩
    | str z =>
      have k1 : kitB "str" "bool" = some false := rfl
      have k2 : kitB "str" "int" = some false := rfl
      have k3 : kitB "str" "str" = some true := rfl
      simp [k1, k2, k3, fEq_ss (show PyData.strOk z = true from e)]
      exact ⟨_, rfl, by simp⟩
    | tup ds =>
      have e' : (decide (ds.length ≤ 2000000) && ds.all (pln k)) = true := e
      rw [Bool.and_eq_true, decide_eq_true_eq, List.all_eq_true] at e'
      obtain ⟨hl, hk⟩ := e'
      have k1 : kitB "tuple" "bool" = some false := rfl
      have k2 : kitB "tuple" "int" = some false := rfl
      have k3 : kitB "tuple" "str" = some false := rfl
      have k4 : kitB "tuple" "dict" = some false := rfl
      have k5 : kitB "tuple" "tuple" = some true := rfl
      have k6 : kitB "tuple" "list" = some false := rfl
      simp [k1, k2, k3, k4, k5, k6, fNe_bb, r62b (show ds.length ≤ 16000000 by omega)]
      rw [comp_range (fun _ => true) (fun _ => .bl true) ds.length]
      · have c := all_true ds.length h
        have e3 : (((List.range ds.length).filter fun _ => true).map fun _ => Z.D.bl true) = List.replicate ds.length (Z.D.bl true) := by rw [List.filter_eq_self.mpr (fun _ _ => rfl), List.map_const', List.length_range]
        rw [e3]
        simp [c]
        exact ⟨_, rfl, by simp⟩
      · intro j hj
        have ix : fIx (.tup ds) (.int (j : Int)) h = .ok (.v ds[j]) h := fIx_q (ds := ds) rfl rfl (List.getElem?_eq_getElem hj)
        have c := same_pl k ds[j] (hk _ (List.getElem_mem hj)) h
        generalize ds[j] = y at *
        refine ⟨_, rfl, by simp, fun _ => ?_⟩
        simp [ix, c]
      · exact szB _ (by omega)
    | lst ds =>
      have e' : (decide (ds.length ≤ 2000000) && ds.all (pln k)) = true := e
      rw [Bool.and_eq_true, decide_eq_true_eq, List.all_eq_true] at e'
      obtain ⟨hl, hk⟩ := e'
      have k1 : kitB "list" "bool" = some false := rfl
      have k2 : kitB "list" "int" = some false := rfl
      have k3 : kitB "list" "str" = some false := rfl
      have k4 : kitB "list" "dict" = some false := rfl
      have k5 : kitB "list" "tuple" = some false := rfl
      have k6 : kitB "list" "list" = some true := rfl
      simp [k1, k2, k3, k4, k5, k6, fNe_bb, r62b (show ds.length ≤ 16000000 by omega)]
      rw [comp_range (fun _ => true) (fun _ => .bl true) ds.length]
      · have c := all_true ds.length h
        have e3 : (((List.range ds.length).filter fun _ => true).map fun _ => Z.D.bl true) = List.replicate ds.length (Z.D.bl true) := by rw [List.filter_eq_self.mpr (fun _ _ => rfl), List.map_const', List.length_range]
        rw [e3]
        simp [c]
        exact ⟨_, rfl, by simp⟩
      · intro j hj
        have ix : fIx (.lst ds) (.int (j : Int)) h = .ok (.v ds[j]) h := fIx_q (ds := ds) rfl rfl (List.getElem?_eq_getElem hj)
        have c := same_pl k ds[j] (hk _ (List.getElem_mem hj)) h
        generalize ds[j] = y at *
        refine ⟨_, rfl, by simp, fun _ => ?_⟩
        simp [ix, c]
      · exact szB _ (by omega)
    | _ => cases e
end K67
set_option Elab.async false
set_option linter.all false
set_option maxRecDepth 100000
set_option maxHeartbeats 2000000
/-! the law's statements, one by one (printed by pieces2.py). -/
namespace K67
open PySem PySem.Spec L2 Z
noncomputable def LT_0 : ST := (sSet 1 (eAl (eCall 2 B__law_draws (aCons (eVar 0) (aCons (eC (.int 300)) aNil)))))
noncomputable def LP1_0 : ST := (sA (ed (eCall 3 B__law_alphabet (aCons (eVar 1) (aCons (eC (.int 4)) (aCons (eC (.int 6)) aNil))))) (tTup (tCons (tN 9) (tCons (tN 10) tNil))))
noncomputable def LP1_1 : ST := (sIf (eTB (e2 fEq (ed (eCall 2 B__law_take (aCons (eVar 1) (aCons (eC (.int 3)) aNil)))) (eC (.int 0)))) (sA (eTup (aCons (eC (.int 4)) (aCons (ed (eComp (iR1 (aCons (ed (e2 fAdd (eC (.int 3)) (ed (eCall 2 B__law_take (aCons (eVar 1) (aCons (eC (.int 3)) aNil)))))) aNil)) (tN 4) bYes (ed (e2 fIx (eTup (aCons (eTup (aCons (eC (.int 0)) (aCons (eC (.int 1)) aNil))) (aCons (eTup (aCons (eC (.int 1)) (aCons (eC (.int 2)) aNil))) (aCons (eTup (aCons (eC (.int 2)) (aCons (eC (.int 3)) aNil))) (aCons (eTup (aCons (eC (.int 3)) aNil)) (aCons (eTup (aCons (eC (.int 0)) aNil)) aNil)))))) (ed (e2 fSub (ed (e2 fAdd (ed (e2 fMulA (eVar 4) (eC (.int 2)))) (eVar 2))) (ed (e2 fMulA (eC (.int 5)) (ed (e2 fDiv (ed (e2 fAdd (ed (e2 fMulA (eVar 4) (eC (.int 2)))) (eVar 2))) (eC (.int 5)))))))))) [4])) aNil))) (tTup (tCons (tN 9) (tCons (tN 10) tNil)))) sPass)
noncomputable def LP1_2 : ST := (sSet 3 (ed (eMk 0 3 B_Alphabet___init__ (aCons (eVar 9) (aCons (eVar 10) aNil)))))
noncomputable def LP1_3 : ST := (sPar 11 12 (aCons (eTup aNil) (aCons (ed (eMkK 1 2 B_Matrix___init__ (aCons (eVar 3) aNil))) aNil)))
noncomputable def LP1_4 : ST := (sFor (iR1 (aCons (ed (eCall 2 B__law_take (aCons (eVar 1) (aCons (eC (.int 15)) aNil)))) aNil)) (tN 4) (sSeq (sSet 8 (ed (eCall 2 B__law_take (aCons (eVar 1) (aCons (ed (eA fLen (aCons (eVar 10) aNil))) aNil))))) (sSeq (sSet 11 (ed (e2 fAdd (eVar 11) (eTup (aCons (eVar 8) aNil))))) (sIf (bNot (eT (ed (eCall 2 (B__law_same 8) (aCons (ed (eMeth clN 1 2 B_Matrix_happen (eVar 12) (aCons (eVar 8) aNil))) (aCons (eC .non) aNil)))))) (sRet (ev (eC (.bl false)))) sPass))) [8])
noncomputable def LP1_5 : ST := (sSet 5 (ed (eCall 2 B_gathered (aCons (eVar 3) (aCons (eVar 11) aNil)))))
noncomputable def LP1_6 : ST := (sFor (iR1 (aCons (eVar 9) aNil)) (tN 6) (sFor (iR1 (aCons (eVar 9) aNil)) (tN 13) (sSeq (sSet 14 (ed (eCall 3 B__law_nested (aCons (eVar 10) (aCons (eVar 11) (aCons (eTup (aCons (eVar 6) (aCons (eVar 13) aNil))) aNil)))))) (sFor (iR1 (aCons (ed (eA fLen (aCons (eVar 10) aNil))) aNil)) (tN 8) (sSeq (sSet 15 (ed (eA fLen (aCons (ed (eComp (iSeq (eVar 14)) (tN 18) (eTB (e2 fEq (eVar 18) (eVar 8))) (eC (.int 1)) [18])) aNil)))) (sSeq (sIf (bOr (bNot (eT (ed (eCall 2 (B__law_same 8) (aCons (ed (eMeth clN 1 4 B_Matrix_known (eVar 12) (aCons (eVar 6) (aCons (eVar 13) (aCons (eVar 8) aNil))))) (aCons (eVar 15) aNil)))))) (bNot (eT (ed (eCall 2 (B__law_same 8) (aCons (ed (eCall 4 B_nested_count (aCons (eVar 3) (aCons (eVar 11) (aCons (eTup (aCons (eVar 6) (aCons (eVar 13) aNil))) (aCons (eVar 8) aNil)))))) (aCons (eVar 15) aNil))))))) (sRet (ev (eC (.bl false)))) sPass) (sIf (bAnd (eTB (e2 fEq (eVar 6) (eVar 13))) (eTB (e2 fNe (ed (e2 fIx (ed (e2 fIx (eVar 5) (eVar 6))) (eVar 8))) (eVar 15)))) (sRet (ev (eC (.bl false)))) sPass))) [8, 15])) [8, 13, 14, 15]) [6, 8, 13, 14, 15])
noncomputable def LP1_7 : ST := (sSet 7 (ed (eA fTuple (aCons (ed (eComp (iR1 (aCons (ed (e2 fAdd (eC (.int 1)) (ed (eCall 2 B__law_take (aCons (eVar 1) (aCons (eC (.int 4)) aNil)))))) aNil)) (tN 4) bYes (ed (eCall 2 B__law_take (aCons (eVar 1) (aCons (eVar 9) aNil)))) [4])) aNil))))
noncomputable def LP1_8 : ST := (sSet 8 (ed (eCall 2 B__law_take (aCons (eVar 1) (aCons (ed (eA fLen (aCons (eVar 10) aNil))) aNil)))))
noncomputable def LP1_9 : ST := (sIf (bNot (eT (ed (eCall 2 (B__law_same 8) (aCons (ed (eCall 4 B_nested_count (aCons (eVar 3) (aCons (eVar 11) (aCons (eVar 7) (aCons (eVar 8) aNil)))))) (aCons (ed (eA fLen (aCons (ed (eComp (iSeq (ed (eCall 3 B__law_nested (aCons (eVar 10) (aCons (eVar 11) (aCons (eVar 7) aNil)))))) (tN 18) (eTB (e2 fEq (eVar 18) (eVar 8))) (eC (.int 1)) [18])) aNil))) aNil)))))) (sRet (ev (eC (.bl false)))) sPass)
noncomputable def LP1_10 : ST := (sFor (iR1 (aCons (eC (.int 2)) aNil)) (tN 4) (sIf (eTB (e2 fGt (ed (eA fLen (aCons (eVar 11) aNil))) (eC (.int 0)))) (sSeq (sPar 16 17 (aCons (ed (eCall 2 B__law_take (aCons (eVar 1) (aCons (ed (eA fLen (aCons (eVar 11) aNil))) aNil)))) (aCons (ed (eCall 2 B__law_take (aCons (eVar 1) (aCons (eVar 9) aNil)))) aNil))) (sIf (bNot (eT (ed (eCall 2 (B__law_same 8) (aCons (ed (eCall 4 B_telling (aCons (eVar 3) (aCons (eVar 11) (aCons (eVar 16) (aCons (eVar 17) aNil)))))) (aCons (ed (eCall 5 B__law_telling (aCons (eVar 9) (aCons (eVar 10) (aCons (eVar 11) (aCons (eVar 16) (aCons (eVar 17) aNil))))))) aNil)))))) (sRet (ev (eC (.bl false)))) sPass)) sPass) [16, 17])
noncomputable def LT_1 : ST := (sFor (iR1 (aCons (eC (.int 2)) aNil)) (tN 2) (sSeq LP1_0 (sSeq LP1_1 (sSeq LP1_2 (sSeq LP1_3 (sSeq LP1_4 (sSeq LP1_5 (sSeq LP1_6 (sSeq LP1_7 (sSeq LP1_8 (sSeq LP1_9 LP1_10)))))))))) [2, 3, 5, 6, 7, 8, 9, 10, 11, 12, 13, 14, 15, 16, 17])
noncomputable def LT_2 : ST := (sRet (ev (eC (.bl true))))
end K67
set_option Elab.async false
set_option linter.all false
set_option maxRecDepth 100000
set_option maxHeartbeats 2000000
/-! nested news: the law, its beginning. -/
namespace K67
open PySem PySem.Spec L2 Z CL NV
abbrev SA (ns : List Int) (a2 a3 a4 a5 a6 a7 a8 a9 a10 a11 a12 a13 a14 a15 a16 a17 : Option Z.D) : Sl :=
  [some (.ro ns), some (.ref 0), a2, a3, a4, a5, a6, a7, a8, a9, a10, a11, a12, a13, a14, a15, a16, a17, none]
/-- the frame's heap with the matrix -/
structure Mh (P : Nat) (L : List (List Nat)) (w : List Nat) (n r : Nat) (H : Own) : Prop where
  dr : ∃ ds, Dr H 0 ds
  hI : H[n]? = some (.ins 1 [aD P L, .ref r])
  hR : H[r]? = some (.lst (rows P L.length (mcL L w)))
  n0 : n ≠ 0
  r0 : r ≠ 0
theorem Mh.take {P : Nat} {L : List (List Nat)} {w : List Nat} {n r k : Nat} {H : Own} (M : Mh P L w n r H) (hk : 0 < k) : ∃ t H', t < k ∧ callB B__law_take [.ref 0, nD k] H = .ok (.v (nD t)) H' ∧ Mh P L w n r H' := by
  obtain ⟨ds, hd⟩ := M.dr
  obtain ⟨t, ds', ht, e⟩ := take_eq hd hk
  exact ⟨t, _, ht, e, ⟨ds', hd.set⟩, by rw [get_set_ne (Ne.symm M.n0)]; exact M.hI, by rw [get_set_ne (Ne.symm M.r0)]; exact M.hR, M.n0, M.r0⟩
theorem Mh.happen {P : Nat} {L : List (List Nat)} {w : List Nat} {n r a : Nat} {H : Own} (M : Mh P L w n r H) (A : Alph P L) (ha : a < L.length) : ∃ H', callB B_Matrix_happen [.ref n, nD a] H = .ok (.v .non) H' ∧ Mh P L (w ++ [a]) n r H' := by
  obtain ⟨ds, hd⟩ := M.dr
  have hnr : r ≠ n := by rintro e; have h1 := M.hI; have h2 := M.hR; rw [e, h1] at h2; cases h2
  exact ⟨_, mhappen_eq A ha M.hI M.hR, ⟨ds, by unfold Dr; rw [get_set_ne M.r0]; exact hd⟩, by rw [get_set_ne hnr]; exact M.hI, get_set_self (lt_of_get M.hR), M.n0, M.r0⟩
/-- the letters that stand in the law -/
def five : List (List Nat) := [[0, 1], [1, 2], [2, 3], [3], [0]]
theorem five_lett {j : Nat} (hj : j < 5) : Lett 4 (five.getD j []) := by
  rcases (show j = 0 ∨ j = 1 ∨ j = 2 ∨ j = 3 ∨ j = 4 by omega) with rfl | rfl | rfl | rfl | rfl <;> exact ⟨by decide, by decide, by decide, by decide⟩
theorem five_ix {j : Nat} (hj : j < 5) (h : Own) : fIx (.tup [.tup [.int 0, .int 1], .tup [.int 1, .int 2], .tup [.int 2, .int 3], .tup [.int 3], .tup [.int 0]]) (nD j) h = .ok (.v (wD (five.getD j []))) h := by
  have e : (Z.D.tup [.tup [.int 0, .int 1], .tup [.int 1, .int 2], .tup [.int 2, .int 3], .tup [.int 3], .tup [.int 0]]) = .tup (five.map wD) := rfl
  rw [e]
  refine ix_L h ?_
  rw [List.getD_eq_getElem?_getD, List.getElem?_eq_getElem (show j < five.length from hj)]
  rfl
theorem five_m1 (k : Nat) (h : Own) : fMulA (nD k) (.int 2) h = .ok (.v (.int ((k : Int) * 2))) h := fMulA_r ⟨by omega, by omega⟩
theorem five_m2 {q : Nat} (hq : q < 1000) (h : Own) : fMulA (.int 5) (nD q) h = .ok (.v (.int (5 * (q : Int)))) h := fMulA_r ⟨by omega, by omega⟩
theorem five_eq {b k t : Nat} {s : Sl} {h : Own} (hk : k < 100) (ht : t < 100) (h4 : s[4]? = some (some (nD k))) (h2 : s[2]? = some (some (nD t))) :
    (ed (e2 fIx (eTup (aCons (eTup (aCons (eC (.int 0)) (aCons (eC (.int 1)) aNil))) (aCons (eTup (aCons (eC (.int 1)) (aCons (eC (.int 2)) aNil))) (aCons (eTup (aCons (eC (.int 2)) (aCons (eC (.int 3)) aNil))) (aCons (eTup (aCons (eC (.int 3)) aNil)) (aCons (eTup (aCons (eC (.int 0)) aNil)) aNil)))))) (ed (e2 fSub (ed (e2 fAdd (ed (e2 fMulA (eVar 4) (eC (.int 2)))) (eVar 2))) (ed (e2 fMulA (eC (.int 5)) (ed (e2 fDiv (ed (e2 fAdd (ed (e2 fMulA (eVar 4) (eC (.int 2)))) (eVar 2))) (eC (.int 5)))))))))) ⟨b, s⟩ h = .ok (wD (five.getD ((k * 2 + t) % 5) [])) h := by
  have m1 := five_m1 k h
  have ed1 : ((k : Int) * 2 + (t : Int)) / 5 = (((k * 2 + t) / 5 : Nat) : Int) := by omega
  have m2 := five_m2 (q := (k * 2 + t) / 5) (by omega) h
  have es : (k : Int) * 2 + (t : Int) - 5 * (((k * 2 + t) / 5 : Nat) : Int) = (((k * 2 + t) % 5 : Nat) : Int) := by omega
  have hj : (k * 2 + t) % 5 < 5 := Nat.mod_lt _ (by decide)
  have s1 : (1 : Nat) ≤ sizeLine := sz _ (by omega)
  have s2 : (2 : Nat) ≤ sizeLine := sz _ (by omega)
  have s5 : (5 : Nat) ≤ sizeLine := sz _ (by omega)
  have ix := five_ix hj h
  have cd : (0 : Int) < 5 ∧ (5 : Int) < 1073741824 := ⟨by omega, by omega⟩
  generalize five.getD ((k * 2 + t) % 5) [] = five' at *
  have v4 : (eVar 4) ⟨b, s⟩ h = .ok (nD k) h := by rw [eVar_eq, h4]
  have v2 : (eVar 2) ⟨b, s⟩ h = .ok (nD t) h := by rw [eVar_eq, h2]
  have sum : (ed (e2 fAdd (ed (e2 fMulA (eVar 4) (eC (.int 2)))) (eVar 2))) ⟨b, s⟩ h = .ok (.int ((k : Int) * 2 + (t : Int))) h := by
    rw [ed_eq, e2_eq, ed_eq, e2_eq, v4, Res.bind_ok, eC_eq, Res.bind_ok, m1, Res.bind_ok]
    dsimp only
    rw [Res.bind_ok, v2, Res.bind_ok, fAdd_ii, Res.bind_ok]
  have quo : (ed (e2 fDiv (ed (e2 fAdd (ed (e2 fMulA (eVar 4) (eC (.int 2)))) (eVar 2))) (eC (.int 5)))) ⟨b, s⟩ h = .ok (nD ((k * 2 + t) / 5)) h := by
    rw [ed_eq, e2_eq, sum, Res.bind_ok, eC_eq, Res.bind_ok, fDiv_ii, if_pos cd, Res.bind_ok, ed1]
  have idx : (ed (e2 fSub (ed (e2 fAdd (ed (e2 fMulA (eVar 4) (eC (.int 2)))) (eVar 2))) (ed (e2 fMulA (eC (.int 5)) (ed (e2 fDiv (ed (e2 fAdd (ed (e2 fMulA (eVar 4) (eC (.int 2)))) (eVar 2))) (eC (.int 5)))))))) ⟨b, s⟩ h = .ok (nD ((k * 2 + t) % 5)) h := by
    rw [ed_eq, e2_eq, sum, Res.bind_ok, ed_eq, e2_eq, eC_eq, Res.bind_ok, quo, Res.bind_ok, m2, Res.bind_ok]
    dsimp only
    rw [Res.bind_ok, fSub_ii, Res.bind_ok, es]
  have tup : (eTup (aCons (eTup (aCons (eC (.int 0)) (aCons (eC (.int 1)) aNil))) (aCons (eTup (aCons (eC (.int 1)) (aCons (eC (.int 2)) aNil))) (aCons (eTup (aCons (eC (.int 2)) (aCons (eC (.int 3)) aNil))) (aCons (eTup (aCons (eC (.int 3)) aNil)) (aCons (eTup (aCons (eC (.int 0)) aNil)) aNil)))))) ⟨b, s⟩ h = .ok (.tup [.tup [.int 0, .int 1], .tup [.int 1, .int 2], .tup [.int 2, .int 3], .tup [.int 3], .tup [.int 0]]) h := by
    simp [s1, s2, s5]
  rw [ed_eq, e2_eq, tup, Res.bind_ok, idx, Res.bind_ok, ix, Res.bind_ok]
def fives (c t : Nat) : List (List Nat) := (List.range c).map fun k => five.getD ((k * 2 + t) % 5) []
theorem fives_ok {c t : Nat} (h1 : 1 ≤ c) (h2 : c ≤ 6) : Alph 4 (fives c t) := by
  refine ⟨by decide, by decide, by simp [fives]; exact h1, by simp [fives]; exact h2, fun l hl => ?_⟩
  unfold fives at hl
  obtain ⟨k, _, rfl⟩ := List.mem_map.mp hl
  exact five_lett (Nat.mod_lt _ (by decide))
section
variable {ns : List Int} {t : Nat}
theorem begin_ok {rest : ST} {Q : SRes → Prop} {H : Own} (hd : ∃ ds, Dr H 0 ds) (ht : t < 2) (a4 : Option Z.D)
    (k : ∀ (P : Nat) (L : List (List Nat)) (a4 : Option Z.D) (n r : Nat) (H' : Own), Alph P L → Mh P L [] n r H' → W (rest ⟨0, SA ns (some (nD t)) (some (aD P L)) a4 none none none none (some (nD P)) (some (lD L)) (some (wD [])) (some (.ref n)) none none none none none⟩ H') Q) :
    W (sSeq LP1_0 (sSeq LP1_1 (sSeq LP1_2 (sSeq LP1_3 rest))) ⟨0, SA ns (some (nD t)) none a4 none none none none none none none none none none none none none⟩ H) Q := by
  obtain ⟨ds, hd⟩ := hd
  obtain ⟨P0, L0, ds1, A0, c0⟩ := law_alphabet_eq hd
  refine W_step (s' := SA ns (some (nD t)) none a4 none none none none (some (nD P0)) (some (lD L0)) none none none none none none none) (h' := H.set 0 (iL ds1)) (by
    unfold LP1_0
    generalize lD L0 = ld at *
    simp [c0]) ?_
  have hd1 : Dr (H.set 0 (iL ds1)) 0 ds1 := hd.set
  generalize H.set 0 (iL ds1) = H1 at *
  obtain ⟨x, ds2, hx, c1⟩ := take_eq hd1 (n := 3) (by decide)
  have c1' : callB B__law_take [.ref 0, .int 3] H1 = .ok (.v (nD x)) (H1.set 0 (iL ds2)) := c1
  have hd2 : Dr (H1.set 0 (iL ds2)) 0 ds2 := hd1.set
  generalize H1.set 0 (iL ds2) = H2 at *
  obtain ⟨P, L, a4', H3, A, ⟨ds3, hd3⟩, e1⟩ : ∃ (P : Nat) (L : List (List Nat)) (a4' : Option Z.D) (H3 : Own), Alph P L ∧ (∃ ds, Dr H3 0 ds) ∧ LP1_1 ⟨0, SA ns (some (nD t)) none a4 none none none none (some (nD P0)) (some (lD L0)) none none none none none none none⟩ H1 = .next (SA ns (some (nD t)) none a4' none none none none (some (nD P)) (some (lD L)) none none none none none none none) H3 := by
    by_cases hx0 : x = 0
    · subst hx0
      obtain ⟨y, ds3, hy, c2⟩ := take_eq hd2 (n := 3) (by decide)
      have c2' : callB B__law_take [.ref 0, .int 3] H2 = .ok (.v (nD y)) (H2.set 0 (iL ds3)) := c2
      refine ⟨4, fives (3 + y) t, a4, H2.set 0 (iL ds3), fives_ok (by omega) (by omega), ⟨ds3, hd2.set⟩, ?_⟩
      generalize H2.set 0 (iL ds3) = H3 at *
      have er : R62 (3 + (y : Int)) := r62i (by omega) (by omega)
      have et : (3 + (y : Int)).toNat = 3 + y := by omega
      have cc : compGo none (tN 4) bYes (ed (e2 fIx (eTup (aCons (eTup (aCons (eC (.int 0)) (aCons (eC (.int 1)) aNil))) (aCons (eTup (aCons (eC (.int 1)) (aCons (eC (.int 2)) aNil))) (aCons (eTup (aCons (eC (.int 2)) (aCons (eC (.int 3)) aNil))) (aCons (eTup (aCons (eC (.int 3)) aNil)) (aCons (eTup (aCons (eC (.int 0)) aNil)) aNil)))))) (ed (e2 fSub (ed (e2 fAdd (ed (e2 fMulA (eVar 4) (eC (.int 2)))) (eVar 2))) (ed (e2 fMulA (eC (.int 5)) (ed (e2 fDiv (ed (e2 fAdd (ed (e2 fMulA (eVar 4) (eC (.int 2)))) (eVar 2))) (eC (.int 5)))))))))) 0 (SA ns (some (nD t)) none none none none none none (some (nD P0)) (some (lD L0)) none none none none none none none) (rngD 0 (3 + y)) H3 [] = .ok (.n (.lst ((fives (3 + y) t).map wD))) H3 := by
        rw [comp_range (fun _ => true) (fun k => wD (five.getD ((k * 2 + t) % 5) [])) (3 + y)]
        · have : (List.range (3 + y)).filter (fun _ => true) = List.range (3 + y) := List.filter_eq_self.mpr fun _ _ => rfl
          rw [this]
          unfold fives
          rw [List.map_map]
          rfl
        · intro k hk
          exact ⟨_, rfl, rfl, fun _ => five_eq (by omega) (by omega) rfl rfl⟩
        · exact sz _ (by omega)
      have s2 : (2 : Nat) ≤ sizeLine := by decide
      unfold LP1_1
      have el : lD (fives (3 + y) t) = .lst ((fives (3 + y) t).map wD) := rfl
      rw [el]
      generalize (fives (3 + y) t).map wD = fs at *
      simp [c1', c2', er, et, cc, s2]
    · refine ⟨P0, L0, a4, H2, A0, ⟨ds2, hd2⟩, ?_⟩
      unfold LP1_1
      generalize lD L0 = ld at *
      simp [c1', hx0]
  refine W_step e1 ?_
  have m := mk_eq A (xs := (aCons (eVar 9) (aCons (eVar 10) aNil))) (τ := ⟨0, SA ns (some (nD t)) none a4' none none none none (some (nD P)) (some (lD L)) none none none none none none none⟩) (h := H3) (by simp)
  refine W_step (s' := SA ns (some (nD t)) (some (aD P L)) a4' none none none none (some (nD P)) (some (lD L)) none none none none none none none) (h' := H3) (by
    unfold LP1_2
    rw [sSet_eq, sE_eq, ed_eq, m]
    rfl) ?_
  obtain ⟨si, ei⟩ := minit_eq A H3
  have h0 := lt_of_get hd3
  refine W_step (s' := SA ns (some (nD t)) (some (aD P L)) a4' none none none none (some (nD P)) (some (lD L)) (some (wD [])) (some (.ref H3.length)) none none none none none) (h' := H3 ++ [.ins 1 [aD P L, .ref (H3.length + 1)], .lst (rows P L.length (mcL L []))]) (by
    unfold LP1_3
    simp [sz 0, ei]) ?_
  refine k P L a4' H3.length (H3.length + 1) _ A ⟨⟨ds3, ?_⟩, ?_, ?_, by omega, by omega⟩
  · unfold Dr
    rw [List.getElem?_append_left h0]
    exact hd3
  · simp
  · simp
end
end K67
set_option Elab.async false
set_option linter.all false
set_option maxRecDepth 100000
set_option maxHeartbeats 2000000
/-! nested news: the law's word, the matrix read. -/
namespace K67
open PySem PySem.Spec L2 Z CL NV
section
variable {ns : List Int} {P n r : Nat} {L : List (List Nat)} {rest : ST} {Q : SRes → Prop}
theorem fl_L (L : List (List Nat)) (H : Own) : fLen [lD L] H = .ok (.v (.int (L.length : Int))) H := by simp [lD]
theorem word_ok {H : Own} (A : Alph P L) (M : Mh P L [] n r H) (a2 a4 : Option Z.D)
    (k : ∀ (w : List Nat) (a4 : Option Z.D) (H' : Own), Fit L w → w.length ≤ 20 → Mh P L w n r H' → Z.W (rest ⟨0, SA ns a2 (some (aD P L)) a4 none none none none (some (nD P)) (some (lD L)) (some (wD w)) (some (.ref n)) none none none none none⟩ H') Q) :
    Z.W (sSeq LP1_4 rest ⟨0, SA ns a2 (some (aD P L)) a4 none none none none (some (nD P)) (some (lD L)) (some (wD [])) (some (.ref n)) none none none none none⟩ H) Q := by
  have l1 := A.l1
  obtain ⟨c, H1, hc, c1, M1⟩ := M.take (k := 15) (by decide)
  have c1' : callB B__law_take [.ref 0, .int 15] H = .ok (.v (nD c)) H1 := c1
  have loop : Z.W (LP1_4 ⟨0, SA ns a2 (some (aD P L)) a4 none none none none (some (nD P)) (some (lD L)) (some (wD [])) (some (.ref n)) none none none none none⟩ H) fun R => ∃ (w : List Nat) (a4 : Option Z.D) (H' : Own), R = .next (SA ns a2 (some (aD P L)) a4 none none none none (some (nD P)) (some (lD L)) (some (wD w)) (some (.ref n)) none none none none none) H' ∧ Fit L w ∧ w.length ≤ 20 ∧ Mh P L w n r H' := by
    unfold LP1_4
    rw [sFor_eq, sE_eq]
    have it : (iR1 (aCons (ed (eCall 2 B__law_take (aCons (eVar 1) (aCons (eC (.int 15)) aNil)))) aNil)) ⟨0, SA ns a2 (some (aD P L)) a4 none none none none (some (nD P)) (some (lD L)) (some (wD [])) (some (.ref n)) none none none none none⟩ H = .ok (rngD 0 c, none) H1 := by
      generalize lD L = ld at *
      simp [c1', r62 (show c ≤ 1000000 by omega)]
    rw [it]
    dsimp only
    refine W_range c (fun k s H => ∃ (w : List Nat) (a4 : Option Z.D), s = SA ns a2 (some (aD P L)) a4 none none none none (some (nD P)) (some (lD L)) (some (wD w)) (some (.ref n)) none none none none none ∧ Fit L w ∧ w.length = k ∧ Mh P L w n r H) ⟨[], a4, rfl, ⟨by simp, by simp⟩, rfl, M1⟩ ?_ ?_
    · rintro k s H hk ⟨w, a4, rfl, fw, lw, M⟩
      refine ⟨SA ns a2 (some (aD P L)) (some (nD k)) none none none none (some (nD P)) (some (lD L)) (some (wD w)) (some (.ref n)) none none none none none, H, rfl, ?_⟩
      obtain ⟨a, H2, ha, c2, M2⟩ := M.take (k := L.length) (by omega)
      have fl := fl_L L H
      refine W_step (s' := SA ns a2 (some (aD P L)) (some (nD k)) none none none (some (nD a)) (some (nD P)) (some (lD L)) (some (wD w)) (some (.ref n)) none none none none none) (h' := H2) (by
        generalize lD L = ld at *
        simp [fl, c2]) ?_
      have sw : w.length + 1 ≤ sizeLine := sz _ (by omega)
      have s1 : (1 : Nat) ≤ sizeLine := by decide
      have ew : Z.D.tup (w.map nD ++ [nD a]) = wD (w ++ [a]) := by simp [wD]
      refine W_step (s' := SA ns a2 (some (aD P L)) (some (nD k)) none none none (some (nD a)) (some (nD P)) (some (lD L)) (some (wD (w ++ [a]))) (some (.ref n)) none none none none none) (h' := H2) (by
        rw [← ew]
        generalize lD L = ld at *
        simp [sw, s1]) ?_
      obtain ⟨H3, c3, M3⟩ := M2.happen A ha
      have sm := same_pl 8 .non rfl H3
      have hI := M2.hI
      have e : (sIf (bNot (eT (ed (eCall 2 (B__law_same 8) (aCons (ed (eMeth clN 1 2 B_Matrix_happen (eVar 12) (aCons (eVar 8) aNil))) (aCons (eC .non) aNil)))))) (sRet (ev (eC (.bl false)))) sPass) ⟨0, SA ns a2 (some (aD P L)) (some (nD k)) none none none (some (nD a)) (some (nD P)) (some (lD L)) (some (wD (w ++ [a]))) (some (.ref n)) none none none none none⟩ H2 = .next (SA ns a2 (some (aD P L)) (some (nD k)) none none none (some (nD a)) (some (nD P)) (some (lD L)) (some (wD (w ++ [a]))) (some (.ref n)) none none none none none) H3 := by
        generalize lD L = ld at *
        generalize wD (w ++ [a]) = wd at *
        simp [hI, c3, sm]
      rw [e]
      refine ⟨w ++ [a], some (nD k), rfl, ⟨by simp; omega, fun x hx => ?_⟩, by simp [lw], M3⟩
      rcases List.mem_append.mp hx with hx | hx
      · exact fw.mem x hx
      · rw [List.mem_singleton.mp hx]; exact ha
    · rintro s H ⟨w, a4, rfl, fw, lw, M⟩
      exact ⟨w, a4, H, rfl, fw, by omega, M⟩
  rw [W_seq]
  refine W_imp loop ?_
  rintro R ⟨w, a4, H', rfl, fw, lw, M⟩
  rw [Th_next]
  exact k w a4 H' fw lw M
theorem nest_two (L : List (List Nat)) (w : List Nat) (p q b : Nat) : (nest L [p, q] w).count b = mcL L w p q b := rfl
/-- what was gathered -/
abbrev gD (P : Nat) (L : List (List Nat)) (w : List Nat) : Z.D := .lst ((List.range P).map fun p => rD L.length (lcL L w p))
/-- the matrix, read -/
theorem read_ok {H : Own} {w : List Nat} (A : Alph P L) (fw : Fit L w) (lw : w.length ≤ 20) (M : Mh P L w n r H) (a2 a4 : Option Z.D)
    (k : Z.W (rest ⟨0, SA ns a2 (some (aD P L)) a4 (some (gD P L w)) none none none (some (nD P)) (some (lD L)) (some (wD w)) (some (.ref n)) none none none none none⟩ H) Q) :
    Z.W (sSeq LP1_6 rest ⟨0, SA ns a2 (some (aD P L)) a4 (some (gD P L w)) none none none (some (nD P)) (some (lD L)) (some (wD w)) (some (.ref n)) none none none none none⟩ H) Q := by
  have p1 := A.p1
  have p2 := A.p2
  have l1 := A.l1
  have l2 := A.l2
  have hp100 : ∀ l ∈ L, l.length ≤ 100 := fun l hl => by have := (A.le l hl).sh; omega
  have fl := fl_L L H
  have hI := M.hI
  have s2 : (2 : Nat) ≤ sizeLine := by decide
  generalize hg : gD P L w = gd at *
  have loop : Z.W (LP1_6 ⟨0, SA ns a2 (some (aD P L)) a4 (some gd) none none none (some (nD P)) (some (lD L)) (some (wD w)) (some (.ref n)) none none none none none⟩ H) fun R => R = .next (SA ns a2 (some (aD P L)) a4 (some gd) none none none (some (nD P)) (some (lD L)) (some (wD w)) (some (.ref n)) none none none none none) H := by
    unfold LP1_6
    rw [sFor_eq, sE_eq]
    have it : (iR1 (aCons (eVar 9) aNil)) ⟨0, SA ns a2 (some (aD P L)) a4 (some gd) none none none (some (nD P)) (some (lD L)) (some (wD w)) (some (.ref n)) none none none none none⟩ H = .ok (rngD 0 P, none) H := by
      generalize lD L = ld at *
      simp [r62 (show P ≤ 1000000 by omega)]
    rw [it]
    dsimp only
    refine W_range P (fun _ s h => s = SA ns a2 (some (aD P L)) a4 (some gd) none none none (some (nD P)) (some (lD L)) (some (wD w)) (some (.ref n)) none none none none none ∧ h = H) ⟨rfl, rfl⟩ ?_ ?_
    · rintro p s h hp ⟨rfl, rfl⟩
      refine ⟨SA ns a2 (some (aD P L)) a4 (some gd) (some (nD p)) none none (some (nD P)) (some (lD L)) (some (wD w)) (some (.ref n)) none none none none none, h, rfl, ?_⟩
      rw [sFor_eq, sE_eq]
      have it : (iR1 (aCons (eVar 9) aNil)) ⟨0, SA ns a2 (some (aD P L)) a4 (some gd) (some (nD p)) none none (some (nD P)) (some (lD L)) (some (wD w)) (some (.ref n)) none none none none none⟩ h = .ok (rngD 0 P, none) h := by
        generalize lD L = ld at *
        simp [r62 (show P ≤ 1000000 by omega)]
      rw [it]
      dsimp only
      refine W_range P (fun _ s h' => s = SA ns a2 (some (aD P L)) a4 (some gd) (some (nD p)) none none (some (nD P)) (some (lD L)) (some (wD w)) (some (.ref n)) none none none none none ∧ h' = h) ⟨rfl, rfl⟩ ?_ ?_
      · rintro q s h' hq ⟨rfl, rfl⟩
        refine ⟨SA ns a2 (some (aD P L)) a4 (some gd) (some (nD p)) none none (some (nD P)) (some (lD L)) (some (wD w)) (some (.ref n)) (some (nD q)) none none none none, h', rfl, ?_⟩
        have cn := law_nested_eq (row := [p, q]) hp100 fw (by omega) h'
        have cn' : callB B__law_nested [lD L, wD w, .tup [nD p, nD q]] h' = .ok (.v (wD (nest L [p, q] w))) h' := cn
        have nf := nest_fit fw [p, q]
        have hnc : ∀ b, b < L.length → callB B_nested_count [aD P L, wD w, .tup [nD p, nD q], nD b] h' = .ok (.v (nD (mcL L w p q b))) h' := fun b _ => nested_count_eq (P := P) (c := b) (row := [p, q]) fw (by omega) h'
        have hcount := nest_two L w p q
        generalize nest L [p, q] w = v at *
        refine W_step (s' := SA ns a2 (some (aD P L)) a4 (some gd) (some (nD p)) none none (some (nD P)) (some (lD L)) (some (wD w)) (some (.ref n)) (some (nD q)) (some (wD v)) none none none) (h' := h') (by
          generalize lD L = ld at *
          simp [cn', s2]) ?_
        rw [sFor_eq, sE_eq]
        have it : (iR1 (aCons (ed (eA fLen (aCons (eVar 10) aNil))) aNil)) ⟨0, SA ns a2 (some (aD P L)) a4 (some gd) (some (nD p)) none none (some (nD P)) (some (lD L)) (some (wD w)) (some (.ref n)) (some (nD q)) (some (wD v)) none none none⟩ h' = .ok (rngD 0 L.length, none) h' := by
          generalize lD L = ld at *
          simp [fl, r62 (show L.length ≤ 1000000 by omega)]
        rw [it]
        dsimp only
        refine W_range L.length (fun _ s h2 => s = SA ns a2 (some (aD P L)) a4 (some gd) (some (nD p)) none none (some (nD P)) (some (lD L)) (some (wD w)) (some (.ref n)) (some (nD q)) (some (wD v)) none none none ∧ h2 = h') ⟨rfl, rfl⟩ ?_ ?_
        · rintro b s h2 hb ⟨rfl, rfl⟩
          refine ⟨SA ns a2 (some (aD P L)) a4 (some gd) (some (nD p)) none (some (nD b)) (some (nD P)) (some (lD L)) (some (wD w)) (some (.ref n)) (some (nD q)) (some (wD v)) none none none, h2, rfl, ?_⟩
          obtain ⟨ds, k1, k2⟩ := count_comp (g := tN 18) (t := eTB (e2 fEq (eVar 18) (eVar 8))) (b := 0) (s := SA ns a2 (some (aD P L)) a4 (some gd) (some (nD p)) none (some (nD b)) (some (nD P)) (some (lD L)) (some (wD w)) (some (.ref n)) (some (nD q)) (some (wD v)) none none none) (h := h2) v b (fun i hi => ⟨_, rfl, by
            generalize lD L = ld at *
            simp
            omega⟩) (by omega)
          rw [hcount b] at k1
          refine W_step (s' := SA ns a2 (some (aD P L)) a4 (some gd) (some (nD p)) none (some (nD b)) (some (nD P)) (some (lD L)) (some (wD w)) (some (.ref n)) (some (nD q)) (some (wD v)) (some (nD (mcL L w p q b))) none none) (h' := h2) (by
            generalize lD L = ld at *
            simp [k2, k1]) ?_
          have ck := mknown_eq hp hq hb hI M.hR
          have cc := hnc b hb
          have sm := same_pl 8 (nD (mcL L w p q b)) rfl h2
          have gi : fIx gd (nD p) h2 = .ok (.v (rD L.length (lcL L w p))) h2 := by
            rw [← hg]
            exact fIx_q (k := p) rfl rfl (by rw [List.getElem?_map, List.getElem?_range hp]; rfl)
          have gj := ix_rD (n := L.length) (f := lcL L w p) hb h2
          have hsame : p = q → lcL L w p b = mcL L w p q b := fun e => by subst e; exact (mc_same w p b).symm
          generalize mcL L w p q b = due at *
          generalize lcL L w p b = tab at *
          generalize rD L.length (lcL L w p) = rowd at *
          refine W_step (s' := SA ns a2 (some (aD P L)) a4 (some gd) (some (nD p)) none (some (nD b)) (some (nD P)) (some (lD L)) (some (wD w)) (some (.ref n)) (some (nD q)) (some (wD v)) (some (nD due)) none none) (h' := h2) (by
            generalize lD L = ld at *
            generalize wD v = vd at *
            have cc' : callB B_nested_count [aD P L, wD w, .tup [nD p, nD q], nD b] h2 = .ok (.v (nD due)) h2 := cc
            generalize wD w = wd at *
            generalize aD P L = ad at *
            simp [hI, ck, sm, s2, cc']) ?_
          have e : (sIf (bAnd (eTB (e2 fEq (eVar 6) (eVar 13))) (eTB (e2 fNe (ed (e2 fIx (ed (e2 fIx (eVar 5) (eVar 6))) (eVar 8))) (eVar 15)))) (sRet (ev (eC (.bl false)))) sPass) ⟨0, SA ns a2 (some (aD P L)) a4 (some gd) (some (nD p)) none (some (nD b)) (some (nD P)) (some (lD L)) (some (wD w)) (some (.ref n)) (some (nD q)) (some (wD v)) (some (nD due)) none none⟩ h2 = .next (SA ns a2 (some (aD P L)) a4 (some gd) (some (nD p)) none (some (nD b)) (some (nD P)) (some (lD L)) (some (wD w)) (some (.ref n)) (some (nD q)) (some (wD v)) (some (nD due)) none none) h2 := by
            generalize lD L = ld at *
            generalize wD v = vd at *
            generalize wD w = wd at *
            generalize aD P L = ad at *
            by_cases hpq : p = q
            · have := hsame hpq
              subst hpq
              subst this
              simp [gi, gj]
            · have hpi : ¬ ((p : Int) = (q : Int)) := by omega
              simp [hpi]
          rw [e]
          exact ⟨rfl, rfl⟩
        · rintro s h2 ⟨rfl, rfl⟩
          exact ⟨rfl, rfl⟩
      · rintro s h' ⟨rfl, rfl⟩
        exact ⟨rfl, rfl⟩
    · rintro s h ⟨rfl, rfl⟩
      rfl
  rw [W_seq]
  refine W_imp loop ?_
  rintro R rfl
  rw [Th_next]
  exact k
end
end K67
set_option Elab.async false
set_option linter.all false
set_option maxRecDepth 100000
set_option maxHeartbeats 2000000
/-! nested news: the law. -/
namespace K67
open PySem PySem.Spec L2 Z CL NV
/-- an answer -/
def ansD (r : Option (List Nat)) : Z.D := match r with
  | some w => wD w
  | none => .non
theorem told {P : Nat} {L : List (List Nat)} {w : List Nat} {x y : Nat} (A : Alph P L) (fw : Fit L w) (lw : w.length ≤ 20) (hx : x < w.length) (hy : y < P) (h : Own) : ∃ d : Z.D, pln 8 d = true ∧ callB B_telling [aD P L, wD w, nD x, nD y] h = .ok (.v d) h ∧ callB B__law_telling [nD P, lD L, wD w, nD x, nD y] h = .ok (.v d) h := by
  obtain ⟨r1, F1, t1⟩ := telling_eq (p := y) A fw hx h
  obtain ⟨r2, F2, t2⟩ := law_telling_eq (p := y) A fw (by omega) hx hy h
  obtain rfl := F1.uniq F2
  refine ⟨ansD r1, ?_, by cases r1 <;> exact t1, by cases r1 <;> exact t2⟩
  clear t1 t2
  cases r1 with
  | none => rfl
  | some u =>
    have : u.length ≤ 2000000 := by
      obtain ⟨h1, h2, h3⟩ := F1.yes u rfl
      have h0 : NV.NK P (kw P L w[x] (w.drop (x + 1))) := KS_NK _ _
      obtain ⟨u', q1, q2, q3⟩ := short (pl := pl L) u _ h0
      have hl := (NK.st (pl := pl L) h0 u).len
      have p2 := A.p2
      rcases h3 u' (fun a ha => h1 a (q1 a ha)) (by rw [q2]; exact h2) with rfl | s
      · omega
      · rcases s with s | ⟨s, _⟩ <;> omega
    exact pln_wD this
section
variable {ns : List Int} {P n r : Nat} {L : List (List Nat)} {rest : ST} {Q : SRes → Prop}
theorem gathered_ok {H : Own} {w : List Nat} (A : Alph P L) (fw : Fit L w) (a2 a4 : Option Z.D)
    (k : Z.W (rest ⟨0, SA ns a2 (some (aD P L)) a4 (some (gD P L w)) none none none (some (nD P)) (some (lD L)) (some (wD w)) (some (.ref n)) none none none none none⟩ H) Q) :
    Z.W (sSeq LP1_5 rest ⟨0, SA ns a2 (some (aD P L)) a4 none none none none (some (nD P)) (some (lD L)) (some (wD w)) (some (.ref n)) none none none none none⟩ H) Q := by
  have c := gathered_eq A fw H
  refine W_step (s' := SA ns a2 (some (aD P L)) a4 (some (gD P L w)) none none none (some (nD P)) (some (lD L)) (some (wD w)) (some (.ref n)) none none none none none) (h' := H) ?_ k
  unfold LP1_5 gD
  generalize (List.range P).map (fun p => rD L.length (lcL L w p)) = g at *
  generalize aD P L = ad at *
  generalize lD L = ld at *
  generalize wD w = wd at *
  simp [c]
/-- rows of places and the searches -/
theorem end_ok {H : Own} {w : List Nat} (A : Alph P L) (fw : Fit L w) (lw : w.length ≤ 20) (M : Mh P L w n r H) (a2 a4 a5 : Option Z.D)
    (k : ∀ a4 a7 a8 a16 a17 H', (∃ ds, Dr H' 0 ds) → Q (.next (SA ns a2 (some (aD P L)) a4 a5 none a7 a8 (some (nD P)) (some (lD L)) (some (wD w)) (some (.ref n)) none none none a16 a17) H')) :
    Z.W (sSeq LP1_7 (sSeq LP1_8 (sSeq LP1_9 LP1_10)) ⟨0, SA ns a2 (some (aD P L)) a4 a5 none none none (some (nD P)) (some (lD L)) (some (wD w)) (some (.ref n)) none none none none none⟩ H) Q := by
  have p1 := A.p1
  have p2 := A.p2
  have l1 := A.l1
  have l2 := A.l2
  have hp100 : ∀ l ∈ L, l.length ≤ 100 := fun l hl => by have := (A.le l hl).sh; omega
  obtain ⟨c, H1, hc, c1, M1⟩ := M.take (k := 4) (by decide)
  have c1' : callB B__law_take [.ref 0, .int 4] H = .ok (.v (nD c)) H1 := c1
  have er : R62 (1 + (c : Int)) := r62i (by omega) (by omega)
  have et : (1 + (c : Int)).toNat = 1 + c := by omega
  obtain ⟨acc, H2, c2, row, rfl, M2⟩ := comp_ind (g := tN 4) (t := bYes) (x := ed (eCall 2 B__law_take (aCons (eVar 1) (aCons (eVar 9) aNil)))) (b := 0) (s := SA ns a2 (some (aD P L)) none a5 none none none (some (nD P)) (some (lD L)) (some (wD w)) (some (.ref n)) none none none none none) (fun k : Nat => Z.D.int (k : Int)) (List.range (1 + c)) (fun k acc H' => ∃ row : List Nat, acc = row.map nD ∧ Mh P L w n r H') (sz _ (by simp; omega)) (by
    rintro k acc H hk ⟨row, rfl, M⟩
    obtain ⟨x, H', hx, cx, M'⟩ := M.take (k := P) (by omega)
    refine ⟨_, H, H, rfl, .inr ⟨rfl, nD x, H', ?_, row ++ [x], by simp, M'⟩⟩
    generalize lD L = ld at *
    simp [cx]) (h := H1) ⟨[], rfl, M1⟩
  rw [← rngD_zero] at c2
  refine W_step (s' := SA ns a2 (some (aD P L)) a4 a5 none (some (wD row)) none (some (nD P)) (some (lD L)) (some (wD w)) (some (.ref n)) none none none none none) (h' := H2) (by
    unfold LP1_7
    generalize lD L = ld at *
    generalize aD P L = ad at *
    generalize wD w = wd at *
    simp [c1', er, et, c2]) ?_
  obtain ⟨b, H3, hb, c3, M3⟩ := M2.take (k := L.length) (by omega)
  have fl := fl_L L H2
  refine W_step (s' := SA ns a2 (some (aD P L)) a4 a5 none (some (wD row)) (some (nD b)) (some (nD P)) (some (lD L)) (some (wD w)) (some (.ref n)) none none none none none) (h' := H3) (by
    unfold LP1_8
    generalize lD L = ld at *
    simp [fl, c3]) ?_
  have cn := law_nested_eq (row := row) hp100 fw (by omega) H3
  have cc := nested_count_eq (P := P) (c := b) (row := row) fw (by omega) H3
  have nf := nest_fit fw row
  generalize nest L row w = v at *
  obtain ⟨ds, k1, k2⟩ := count_comp (g := tN 18) (t := eTB (e2 fEq (eVar 18) (eVar 8))) (b := 0) (s := SA ns a2 (some (aD P L)) a4 a5 none (some (wD row)) (some (nD b)) (some (nD P)) (some (lD L)) (some (wD w)) (some (.ref n)) none none none none none) (h := H3) v b (fun i hi => ⟨_, rfl, by
    generalize lD L = ld at *
    simp
    omega⟩) (by omega)
  have sm := same_pl 8 (nD (v.count b)) rfl H3
  refine W_step (s' := SA ns a2 (some (aD P L)) a4 a5 none (some (wD row)) (some (nD b)) (some (nD P)) (some (lD L)) (some (wD w)) (some (.ref n)) none none none none none) (h' := H3) (by
    unfold LP1_9
    generalize lD L = ld at *
    generalize aD P L = ad at *
    generalize wD w = wd at *
    generalize wD row = rw' at *
    simp [cc, cn, k2, k1, sm]) ?_
  unfold LP1_10
  rw [sFor_eq, sE_eq]
  have it : (iR1 (aCons (eC (.int 2)) aNil)) ⟨0, SA ns a2 (some (aD P L)) a4 a5 none (some (wD row)) (some (nD b)) (some (nD P)) (some (lD L)) (some (wD w)) (some (.ref n)) none none none none none⟩ H3 = .ok (rngD 0 2, none) H3 := by simp [r62i (show (-1000000 : Int) ≤ 2 by omega) (show (2 : Int) ≤ 1000000 by omega)]
  rw [it]
  dsimp only
  refine W_range 2 (fun _ s h => ∃ a4, s = SA ns a2 (some (aD P L)) a4 a5 none (some (wD row)) (some (nD b)) (some (nD P)) (some (lD L)) (some (wD w)) (some (.ref n)) none none none none none ∧ Mh P L w n r h) ⟨a4, rfl, M3⟩ ?_ ?_
  · rintro i s h hi ⟨a4, rfl, M⟩
    refine ⟨SA ns a2 (some (aD P L)) (some (nD i)) a5 none (some (wD row)) (some (nD b)) (some (nD P)) (some (lD L)) (some (wD w)) (some (.ref n)) none none none none none, h, rfl, ?_⟩
    by_cases hw : w = []
    · subst hw
      have e : (sIf (eTB (e2 fGt (ed (eA fLen (aCons (eVar 11) aNil))) (eC (.int 0)))) (sSeq (sPar 16 17 (aCons (ed (eCall 2 B__law_take (aCons (eVar 1) (aCons (ed (eA fLen (aCons (eVar 11) aNil))) aNil)))) (aCons (ed (eCall 2 B__law_take (aCons (eVar 1) (aCons (eVar 9) aNil)))) aNil))) (sIf (bNot (eT (ed (eCall 2 (B__law_same 8) (aCons (ed (eCall 4 B_telling (aCons (eVar 3) (aCons (eVar 11) (aCons (eVar 16) (aCons (eVar 17) aNil)))))) (aCons (ed (eCall 5 B__law_telling (aCons (eVar 9) (aCons (eVar 10) (aCons (eVar 11) (aCons (eVar 16) (aCons (eVar 17) aNil))))))) aNil)))))) (sRet (ev (eC (.bl false)))) sPass)) sPass) ⟨0, SA ns a2 (some (aD P L)) (some (nD i)) a5 none (some (wD row)) (some (nD b)) (some (nD P)) (some (lD L)) (some (wD [])) (some (.ref n)) none none none none none⟩ h = .next (SA ns a2 (some (aD P L)) (some (nD i)) a5 none (some (wD row)) (some (nD b)) (some (nD P)) (some (lD L)) (some (wD [])) (some (.ref n)) none none none none none) h := by
        generalize lD L = ld at *
        simp
      rw [e]
      exact ⟨_, rfl, M⟩
    · have hwl : 0 < w.length := List.length_pos_iff.mpr hw
      obtain ⟨x, h1, hx, cx, Mx'⟩ := M.take hwl
      obtain ⟨y, h2, hy, cy, My⟩ := Mx'.take (k := P) (by omega)
      obtain ⟨d, hpl, t1, t2⟩ := told A fw lw hx hy h2
      have sm := same_pl 8 d hpl h2
      have e : (sIf (eTB (e2 fGt (ed (eA fLen (aCons (eVar 11) aNil))) (eC (.int 0)))) (sSeq (sPar 16 17 (aCons (ed (eCall 2 B__law_take (aCons (eVar 1) (aCons (ed (eA fLen (aCons (eVar 11) aNil))) aNil)))) (aCons (ed (eCall 2 B__law_take (aCons (eVar 1) (aCons (eVar 9) aNil)))) aNil))) (sIf (bNot (eT (ed (eCall 2 (B__law_same 8) (aCons (ed (eCall 4 B_telling (aCons (eVar 3) (aCons (eVar 11) (aCons (eVar 16) (aCons (eVar 17) aNil)))))) (aCons (ed (eCall 5 B__law_telling (aCons (eVar 9) (aCons (eVar 10) (aCons (eVar 11) (aCons (eVar 16) (aCons (eVar 17) aNil))))))) aNil)))))) (sRet (ev (eC (.bl false)))) sPass)) sPass) ⟨0, SA ns a2 (some (aD P L)) (some (nD i)) a5 none (some (wD row)) (some (nD b)) (some (nD P)) (some (lD L)) (some (wD w)) (some (.ref n)) none none none none none⟩ h = .next (SA ns a2 (some (aD P L)) (some (nD i)) a5 none (some (wD row)) (some (nD b)) (some (nD P)) (some (lD L)) (some (wD w)) (some (.ref n)) none none none (some (nD x)) (some (nD y))) h2 := by
        have fw2 : ∀ H, fLen [wD w] H = .ok (.v (nD w.length)) H := fun H => by simp
        generalize lD L = ld at *
        generalize aD P L = ad at *
        generalize wD w = wd at *
        simp [fw2, hw, cx, cy, sSeq, t1, t2, sm]
      rw [e]
      exact ⟨_, rfl, My⟩
  · rintro s h ⟨a4, rfl, M⟩
    exact k _ _ _ _ _ _ M.dr
end
theorem law_true (ns : List Int) (hn : ns.length ≤ 63) : ∃ h, B_law 0 [.ro ns] (tabs 0) = .ret (.v (.bl true)) h := by
  obtain ⟨ds, c0⟩ := law_draws_eq 300 (by decide) hn []
  have c0' : callB B__law_draws [.ro ns, .int 300] [] = .ok (.n (iL ds)) [] := c0
  have key : Z.W (B_law 0 [.ro ns] []) fun r => ∃ h, r = .ret (.v (.bl true)) h := by
    show Z.W (sSeq LT_0 (sSeq LT_1 LT_2) ⟨0, [some (.ro ns), none, none, none, none, none, none, none, none, none, none, none, none, none, none, none, none, none, none]⟩ []) _
    refine W_step (s' := SA ns none none none none none none none none none none none none none none none none) (h' := [iL ds]) ?_ ?_
    · unfold LT_0
      simp [c0']
    have loop : Z.W (LT_1 ⟨0, SA ns none none none none none none none none none none none none none none none none⟩ [iL ds]) fun R => ∃ z H, R = .next z H := by
      unfold LT_1
      rw [sFor_eq, sE_eq]
      have it : (iR1 (aCons (eC (.int 2)) aNil)) ⟨0, SA ns none none none none none none none none none none none none none none none none⟩ [iL ds] = .ok (rngD 0 2, none) [iL ds] := by simp [r62i (show (-1000000 : Int) ≤ 2 by omega) (show (2 : Int) ≤ 1000000 by omega)]
      rw [it]
      dsimp only
      refine W_range 2 (fun _ z H => ∃ a4, z = SA ns none none a4 none none none none none none none none none none none none none ∧ ∃ ds, Dr H 0 ds) ⟨none, rfl, ds, rfl⟩ ?_ ?_
      · rintro t z H ht ⟨a4, rfl, hd⟩
        refine ⟨SA ns (some (nD t)) none a4 none none none none none none none none none none none none none, H, rfl, ?_⟩
        refine begin_ok hd ht a4 fun P L a4 n r H' A M => ?_
        refine word_ok A M _ a4 fun w a4 H' fw lw M => ?_
        refine gathered_ok A fw _ a4 ?_
        refine read_ok A fw lw M _ a4 ?_
        refine end_ok A fw lw M _ a4 _ fun a4 a7 a8 a16 a17 H' hd => ?_
        exact ⟨a4, rfl, hd⟩
      · rintro z H ⟨a4, rfl, hd⟩
        exact ⟨_, _, rfl⟩
    rw [W_seq]
    refine W_imp loop ?_
    rintro R ⟨z, H, rfl⟩
    exact ⟨H, rfl⟩
  exact key
end K67
open PySem PySem.W PyProof.Rows
set_option maxRecDepth 100000 in
set_option maxHeartbeats 0 in
theorem PySem.Challenge.cw_tracetalk_k67_nested_news_holds : PySem.Challenge.rw_tracetalk_k67_nested_news.Holds := by
  w_on; o_law; k_head; (case hw => w_witness2)
  k_fill
  refine K67.walk (l := PySem.Challenge.rw_tracetalk_k67_nested_news) rfl rfl (fun x hx => by cases hx) K67.law_true (fun w h Y => PySem.W.kIn_of Y) ?F
  case F =>
    intro w mg fa h KX G hmg
    refine' K67.all_mk KX G hmg ?aC_Alphabet ?pg_Alphabet ?hd_Alphabet ?po_Alphabet ?sa_Alphabet ?mk_Alphabet ?kc_Alphabet ?na_Alphabet_places ?na_Alphabet_letters ?aC_Matrix ?pg_Matrix ?hd_Matrix ?po_Matrix ?sa_Matrix ?mk_Matrix ?kc_Matrix ?na_Matrix_alphabet ?na_Matrix__rows ?aC_Ledger ?pg_Ledger ?hd_Ledger ?po_Ledger ?sa_Ledger ?mk_Ledger ?kc_Ledger ?na_Ledger__alphabet ?na_Ledger__rows ?aC_InvalidAlphabet ?ex_InvalidAlphabet ?kc_InvalidAlphabet ?sb_InvalidAlphabet ?ty_InvalidAlphabet ?ic_InvalidAlphabet ?sc_InvalidAlphabet ?a_fits ?l_fits ?cc_fits ?k_fits ?a_independent ?l_independent ?cc_independent ?k_independent ?a_events_at ?l_events_at ?cc_events_at ?k_events_at ?a_Matrix___init__ ?i_Matrix___init__ ?l_Matrix___init__ ?cc_Matrix___init__ ?k_Matrix___init__ ?a_Matrix_known ?i_Matrix_known ?l_Matrix_known ?cc_Matrix_known ?k_Matrix_known ?a_greatest ?l_greatest ?cc_greatest ?k_greatest ?a_Ledger___init__ ?i_Ledger___init__ ?l_Ledger___init__ ?cc_Ledger___init__ ?k_Ledger___init__ ?a_Ledger_happen ?i_Ledger_happen ?l_Ledger_happen ?cc_Ledger_happen ?k_Ledger_happen ?a_Ledger_known ?i_Ledger_known ?l_Ledger_known ?cc_Ledger_known ?k_Ledger_known ?a__law_draws ?l__law_draws ?cc__law_draws ?k__law_draws ?a__law_take ?l__law_take ?cc__law_take ?k__law_take ?a__law_meet ?l__law_meet ?cc__law_meet ?k__law_meet ?a_Alphabet___init__ ?i_Alphabet___init__ ?l_Alphabet___init__ ?cc_Alphabet___init__ ?k_Alphabet___init__ ?a_below_all ?l_below_all ?cc_below_all ?k_below_all ?a_Matrix_happen ?i_Matrix_happen ?l_Matrix_happen ?cc_Matrix_happen ?k_Matrix_happen ?a__law_alphabet ?l__law_alphabet ?cc__law_alphabet ?k__law_alphabet ?a__law_view ?l__law_view ?cc__law_view ?k__law_view ?a_view ?l_view ?cc_view ?k_view ?a_gathered ?l_gathered ?cc_gathered ?k_gathered ?a__law_nested ?l__law_nested ?cc__law_nested ?k__law_nested ?a__law_telling ?l__law_telling ?cc__law_telling ?k__law_telling ?a_nested_count ?l_nested_count ?cc_nested_count ?k_nested_count ?a_telling ?l_telling ?cc_telling ?k_telling ?a__law_same ?l__law_same ?cc__law_same ?k__law_same ?a_law ?l_law ?cc_law ?k_law ?z_all ?z_any ?z_bool ?z_dict ?z_enumerate ?z_int ?z_isinstance ?z_len ?z_list ?z_max ?z_range ?z_set ?z_sorted ?z_str ?z_tuple ?v_MOST_LETTERS ?v_MOST_PLACES
    (case aC_Alphabet => k_is)
    (case pg_Alphabet => k_is)
    (case hd_Alphabet => k_is)
    (case po_Alphabet => k_is)
    (case sa_Alphabet => k_is)
    (case mk_Alphabet => k_is)
    (case kc_Alphabet => k_is)
    (case na_Alphabet_places => k_is)
    (case na_Alphabet_letters => k_is)
    (case aC_Matrix => k_is)
    (case pg_Matrix => k_is)
    (case hd_Matrix => k_is)
    (case po_Matrix => k_is)
    (case sa_Matrix => k_is)
    (case mk_Matrix => k_is)
    (case kc_Matrix => k_is)
    (case na_Matrix_alphabet => k_is)
    (case na_Matrix__rows => k_is)
    (case aC_Ledger => k_is)
    (case pg_Ledger => k_is)
    (case hd_Ledger => k_is)
    (case po_Ledger => k_is)
    (case sa_Ledger => k_is)
    (case mk_Ledger => k_is)
    (case kc_Ledger => k_is)
    (case na_Ledger__alphabet => k_is)
    (case na_Ledger__rows => k_is)
    (case aC_InvalidAlphabet => k_is)
    (case ex_InvalidAlphabet => k_exc)
    (case kc_InvalidAlphabet => k_is)
    (case sb_InvalidAlphabet => k_is)
    (case ty_InvalidAlphabet => k_is)
    (case ic_InvalidAlphabet => k_is)
    (case sc_InvalidAlphabet => k_is)
    (case a_fits => k_is)
    (case l_fits => k_is)
    (case cc_fits => k_is)
    (case k_fits => k_is)
    (case a_independent => k_is)
    (case l_independent => k_is)
    (case cc_independent => k_is)
    (case k_independent => k_is)
    (case a_events_at => k_is)
    (case l_events_at => k_is)
    (case cc_events_at => k_is)
    (case k_events_at => k_is)
    (case a_Matrix___init__ => k_is)
    (case i_Matrix___init__ => k_is)
    (case l_Matrix___init__ => k_is)
    (case cc_Matrix___init__ => k_is)
    (case k_Matrix___init__ => k_is)
    (case a_Matrix_known => k_is)
    (case i_Matrix_known => k_is)
    (case l_Matrix_known => k_is)
    (case cc_Matrix_known => k_is)
    (case k_Matrix_known => k_is)
    (case a_greatest => k_is)
    (case l_greatest => k_is)
    (case cc_greatest => k_is)
    (case k_greatest => k_is)
    (case a_Ledger___init__ => k_is)
    (case i_Ledger___init__ => k_is)
    (case l_Ledger___init__ => k_is)
    (case cc_Ledger___init__ => k_is)
    (case k_Ledger___init__ => k_is)
    (case a_Ledger_happen => k_is)
    (case i_Ledger_happen => k_is)
    (case l_Ledger_happen => k_is)
    (case cc_Ledger_happen => k_is)
    (case k_Ledger_happen => k_is)
    (case a_Ledger_known => k_is)
    (case i_Ledger_known => k_is)
    (case l_Ledger_known => k_is)
    (case cc_Ledger_known => k_is)
    (case k_Ledger_known => k_is)
    (case a__law_draws => k_is)
    (case l__law_draws => k_is)
    (case cc__law_draws => k_is)
    (case k__law_draws => k_is)
    (case a__law_take => k_is)
    (case l__law_take => k_is)
    (case cc__law_take => k_is)
    (case k__law_take => k_is)
    (case a__law_meet => k_is)
    (case l__law_meet => k_is)
    (case cc__law_meet => k_is)
    (case k__law_meet => k_is)
    (case a_Alphabet___init__ => k_is)
    (case i_Alphabet___init__ => k_is)
    (case l_Alphabet___init__ => k_is)
    (case cc_Alphabet___init__ => k_is)
    (case k_Alphabet___init__ => k_is)
    (case a_below_all => k_is)
    (case l_below_all => k_is)
    (case cc_below_all => k_is)
    (case k_below_all => k_is)
    (case a_Matrix_happen => k_is)
    (case i_Matrix_happen => k_is)
    (case l_Matrix_happen => k_is)
    (case cc_Matrix_happen => k_is)
    (case k_Matrix_happen => k_is)
    (case a__law_alphabet => k_is)
    (case l__law_alphabet => k_is)
    (case cc__law_alphabet => k_is)
    (case k__law_alphabet => k_is)
    (case a__law_view => k_is)
    (case l__law_view => k_is)
    (case cc__law_view => k_is)
    (case k__law_view => k_is)
    (case a_view => k_is)
    (case l_view => k_is)
    (case cc_view => k_is)
    (case k_view => k_is)
    (case a_gathered => k_is)
    (case l_gathered => k_is)
    (case cc_gathered => k_is)
    (case k_gathered => k_is)
    (case a__law_nested => k_is)
    (case l__law_nested => k_is)
    (case cc__law_nested => k_is)
    (case k__law_nested => k_is)
    (case a__law_telling => k_is)
    (case l__law_telling => k_is)
    (case cc__law_telling => k_is)
    (case k__law_telling => k_is)
    (case a_nested_count => k_is)
    (case l_nested_count => k_is)
    (case cc_nested_count => k_is)
    (case k_nested_count => k_is)
    (case a_telling => k_is)
    (case l_telling => k_is)
    (case cc_telling => k_is)
    (case k_telling => k_is)
    (case a__law_same => k_is)
    (case l__law_same => k_is)
    (case cc__law_same => k_is)
    (case k__law_same => k_is)
    (case a_law => k_is)
    (case l_law => k_is)
    (case cc_law => k_is)
    (case k_law => k_is)
    (case z_all => k_is)
    (case z_any => k_is)
    (case z_bool => k_is)
    (case z_dict => k_is)
    (case z_enumerate => k_is)
    (case z_int => k_is)
    (case z_isinstance => k_is)
    (case z_len => k_is)
    (case z_list => k_is)
    (case z_max => k_is)
    (case z_range => k_is)
    (case z_set => k_is)
    (case z_sorted => k_is)
    (case z_str => k_is)
    (case z_tuple => k_is)
    (case v_MOST_LETTERS => k_is)
    (case v_MOST_PLACES => k_is)
