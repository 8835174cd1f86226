import PyProof.Rows.All
import Wide.All
import OpenK.AllK
import Wide.FinOn
import HandS.ForMost
import HandS.ForExc
import HandS.TryMany
import HandS.Gcd
import HandS.Wide
import HandS.IsInst
import HandS.Flow
import HandS.TupAny
import HandS.ExcIs
import PySem.Challenge.RW_cellcode_k00_errors
import HandS.SetKeys
import HandS.Zip
import HandS.Iter
import HandS.Deep
import HandS.Text
import HandS.Dict
import HandS.TupMul
import HandS.More
import HandS.SortInts
import HandS.DictTup
import KE.SortData
import KE.KDictSum
import KE.KDictCopyH
import HandS.ExcValue
import HandS.TupLe
import HandS.TryOnly
import PyProof.EnumMake
import KE.GoesMore
import HandS.Style
import PyProof.NeKinds
import PyProof.Rows.IntBool
import PyProof.CallStr
import KE.KExcSuper
import HandS.ExcSuper
import HandS.ExcField
import HandS.ExcInit
import HandS.DictComp
import KE.KExcIs
set_option Elab.async false
set_option linter.all false
set_option backward.match.sparseCases false
set_option maxRecDepth 100000
set_option maxHeartbeats 1000000
/-! A mirror of the language: values without addresses, a heap of one's own, and what it means that a reading is mirrored. -/
namespace PI
open PySem PySem.Spec L2
open PyProof.Rows hiding St

inductive D where
  | non | bl (b : Bool) | int (i : Int) | str (x : Str)
  | tup (xs : List D) | rot (xs : List D) | rol (xs : List D) | ref (i : Nat) | ex (a : Addr)
  /-- a caught exception with fields: it, its dict -/
  | exf (a d : Addr) (ns : List Str) (xs : List D)
  deriving Inhabited

inductive Ob where
  | lst (xs : List D)
  | dct (kvs : List (Key × D))
  | dctT (kvs : List (List Key × D))
  /-- while it is walked -/
  | dlk (kvs : List (Key × D))
  | dlkT (kvs : List (List Key × D))
  /-- an instance of the class at C: its fields -/
  | obj (C : Addr) (fs : List (Str × D))
  /-- a set of keys, in the program P and the world w -/
  | set (P : Program) (w : World) (ks : List Key)
  /-- an exception as a value: its class (name, place) and its fields -/
  | exo (c : Str) (C : Addr) (fs : List (Str × D))
  deriving Inhabited
def Ob.lk : Ob → Bool
  | .dlk _ => true
  | .dlkT _ => true
  | _ => false

abbrev Hh := List Ob
abbrev Rho := List (Option D)
structure Exn where
  cls : Str
  fs : List (Str × D) := []

inductive Out (α : Type) where
  | ok (a : α) (h : Hh)
  | err (x : Exn) (h : Hh)
  | bad

inductive OutS where
  | nx (ρ : Rho) (h : Hh)
  | rt (d : D) (h : Hh)
  | bk (ρ : Rho) (h : Hh)
  | ct (ρ : Rho) (h : Hh)
  | er (x : Exn) (ρ : Rho) (h : Hh)
  | bad

abbrev ME := Rho → Hh → Out D
abbrev MA := Rho → Hh → Out (List D)
abbrev MT := Rho → Hh → Out Bool
abbrev MS := Rho → Hh → OutS
abbrev FnM := List D → Hh → Out D

/-- a list that is only read: locked, or of the written part -/
def RoL (K : PySem.W.Frag) (H : Hp) (a : Addr) (xs : List V) : Prop :=
  (∃ o, H a = some (.frz o (.lst xs))) ∨
    ∃ (o : Obj) (its : Array Value) (n : Nat), K.lookup a = some o ∧ o.cls = .type "list" ∧ o.dict = none ∧ o.data = .seq its n ∧ its.size ≤ sizeLine ∧ Vals xs its.toList

theorem RoL.sq {K : PySem.W.Frag} {H : Hp} {a : Addr} {xs : List V} (h : RoL K H a xs) : SqL K H a xs := by
  rcases h with ⟨o, h⟩ | h
  · exact .inl (.inr ⟨o, h⟩)
  · exact .inr h

mutual
def Den (K : PySem.W.Frag) (μ : List Addr) (H : Hp) : D → V → Prop
  | .non, v => v = .non
  | .bl b, v => v = .bl b
  | .int i, v => v = .int i
  | .str x, v => v = .str x
  | .tup ds, v => ∃ a vs, v = .ref a ∧ H a = some (.tup vs) ∧ Dens K μ H ds vs
  | .rot ds, v => ∃ a vs, v = .ref a ∧ SqT K H a vs ∧ Dens K μ H ds vs
  | .rol ds, v => ∃ a vs, v = .ref a ∧ RoL K H a vs ∧ Dens K μ H ds vs
  | .ref i, v => ∃ a, v = .ref a ∧ μ[i]? = some a
  | .ex a, v => v = .ref a
  | .exf a d ns xs, v => v = .ref a ∧ ∃ ws, H d = some (.xd ws) ∧ ws.map (·.1) = ns ∧ Dens K μ H xs (ws.map (·.2))
def Dens (K : PySem.W.Frag) (μ : List Addr) (H : Hp) : List D → List V → Prop
  | [], vs => vs = []
  | d :: ds, vs => ∃ v vr, vs = v :: vr ∧ Den K μ H d v ∧ Dens K μ H ds vr
end

structure Step (μ : List Addr) (H : Hp) (μ' : List Addr) (H' : Hp) : Prop where
  ext : ∃ l, μ' = μ ++ l
  tup : ∀ a xs, H a = some (.tup xs) → H' a = some (.tup xs)
  frz : ∀ a o u, H a = some (.frz o u) → H' a = some (.frz o u)
  xd : ∀ a fs, H a = some (.xd fs) → H' a = some (.xd fs)

section
variable {K : PySem.W.Frag} {μ μ' μ1 μ2 : List Addr} {H H' H1 H2 : Hp}
theorem Step.refl : Step μ H μ H := ⟨⟨[], by simp⟩, fun _ _ h => h, fun _ _ _ h => h, fun _ _ h => h⟩
theorem Step.trans (a : Step μ H μ1 H1) (b : Step μ1 H1 μ2 H2) : Step μ H μ2 H2 := by
  obtain ⟨l, rfl⟩ := a.ext
  obtain ⟨m, rfl⟩ := b.ext
  exact ⟨⟨l ++ m, by simp⟩, fun x y h => b.tup _ _ (a.tup x y h), fun x o u h => b.frz _ _ _ (a.frz x o u h), fun x y h => b.xd _ _ (a.xd x y h)⟩
theorem Step.get (a : Step μ H μ1 H1) {i : Nat} {p : Addr} (h : μ[i]? = some p) : μ1[i]? = some p := by
  obtain ⟨l, rfl⟩ := a.ext
  have hi : i < μ.length := (List.getElem?_eq_some_iff.mp h).1
  rw [List.getElem?_append_left hi]
  exact h
theorem Step.new {p : Addr} {o : HO} (h : H p = none) : Step μ H μ (upd H p o) :=
  ⟨⟨[], by simp⟩, fun a xs e => by rw [upd_ne (ne_of_none e h)]; exact e, fun a o u e => by rw [upd_ne (ne_of_none e h)]; exact e, fun a xs e => by rw [upd_ne (ne_of_none e h)]; exact e⟩
theorem Step.newT {p : Addr} {o : HO} (h : H p = none) : Step μ H (μ ++ [p]) (upd H p o) :=
  ⟨⟨[p], rfl⟩, fun a xs e => by rw [upd_ne (ne_of_none e h)]; exact e, fun a o u e => by rw [upd_ne (ne_of_none e h)]; exact e, fun a xs e => by rw [upd_ne (ne_of_none e h)]; exact e⟩
theorem Step.set {p : Addr} {o u : HO} (h : H p = some o) (hl : ∀ xs, o ≠ .tup xs) (hf : ∀ x y, o ≠ .frz x y) (hx : ∀ fs, o ≠ .xd fs) : Step μ H μ (upd H p u) :=
  ⟨⟨[], by simp⟩, fun a xs e => by rw [upd_ne (ne_of e h (fun z => hl _ z.symm))]; exact e, fun a x y e => by rw [upd_ne (ne_of e h (fun z => hf _ _ z.symm))]; exact e, fun a xs e => by rw [upd_ne (ne_of e h (fun z => hx _ z.symm))]; exact e⟩
theorem Step.sqT (s : Step μ H μ1 H1) {a : Addr} {xs : List V} (h : SqT K H a xs) : SqT K H1 a xs := by
  rcases h with (h | ⟨o, h⟩) | h
  · exact .inl (.inl (s.tup _ _ h))
  · exact .inl (.inr ⟨o, s.frz _ _ _ h⟩)
  · exact .inr h
theorem Step.roL (s : Step μ H μ1 H1) {a : Addr} {xs : List V} (h : RoL K H a xs) : RoL K H1 a xs := by
  rcases h with ⟨o, h⟩ | h
  · exact .inl ⟨o, s.frz _ _ _ h⟩
  · exact .inr h
mutual
theorem Den.mono (s : Step μ H μ1 H1) : ∀ {d : D} {v : V}, Den K μ H d v → Den K μ1 H1 d v
  | .non, _, h => h
  | .bl _, _, h => h
  | .int _, _, h => h
  | .str _, _, h => h
  | .tup ds, _, h => by
    obtain ⟨a, vs, e, q, r⟩ := h
    exact ⟨a, vs, e, s.tup _ _ q, Dens.mono s r⟩
  | .rot ds, _, h => by
    obtain ⟨a, vs, e, q, r⟩ := h
    exact ⟨a, vs, e, s.sqT q, Dens.mono s r⟩
  | .rol ds, _, h => by
    obtain ⟨a, vs, e, q, r⟩ := h
    exact ⟨a, vs, e, s.roL q, Dens.mono s r⟩
  | .ref i, _, h => by
    obtain ⟨a, e, q⟩ := h
    exact ⟨a, e, s.get q⟩
  | .ex _, _, h => h
  | .exf _ _ _ xs, _, h => by
    obtain ⟨e, ws, q, r, dd⟩ := h
    exact ⟨e, ws, s.xd _ _ q, r, Dens.mono s dd⟩
theorem Dens.mono (s : Step μ H μ1 H1) : ∀ {ds : List D} {vs : List V}, Dens K μ H ds vs → Dens K μ1 H1 ds vs
  | [], _, h => h
  | d :: ds, _, h => by
    obtain ⟨v, vr, e, q, r⟩ := h
    exact ⟨v, vr, e, Den.mono s q, Dens.mono s r⟩
end
theorem Dens.length : ∀ {ds : List D} {vs : List V}, Dens K μ H ds vs → vs.length = ds.length
  | [], _, h => by
    have h : _ = [] := h
    rw [h]; rfl
  | d :: ds, _, h => by
    obtain ⟨v, vr, rfl, q, r⟩ := h
    simp [Dens.length r]
theorem Dens.get : ∀ {ds : List D} {vs : List V} {i : Nat} {d : D}, Dens K μ H ds vs → ds[i]? = some d → ∃ v, vs[i]? = some v ∧ Den K μ H d v
  | [], _, _, _, _, e => by simp at e
  | d :: ds, _, 0, x, h, e => by
    obtain ⟨v, vr, rfl, q, r⟩ := h
    simp at e
    subst e
    exact ⟨v, rfl, q⟩
  | d :: ds, _, i + 1, x, h, e => by
    obtain ⟨v, vr, rfl, q, r⟩ := h
    obtain ⟨w, e1, e2⟩ := Dens.get r (i := i) (by simpa using e)
    exact ⟨w, by simpa using e1, e2⟩
theorem Dens.append : ∀ {ds es : List D} {vs ws : List V}, Dens K μ H ds vs → Dens K μ H es ws → Dens K μ H (ds ++ es) (vs ++ ws)
  | [], _, _, _, h, g => by
    have h : _ = [] := h
    rw [h]; exact g
  | d :: ds, _, _, _, h, g => by
    obtain ⟨v, vr, rfl, q, r⟩ := h
    exact ⟨v, _, rfl, q, Dens.append r g⟩
theorem Dens.set {x : D} {v : V} (hx : Den K μ H x v) : ∀ {ds : List D} {vs : List V} (i : Nat), Dens K μ H ds vs → Dens K μ H (ds.set i x) (vs.set i v)
  | [], _, _, h => by
    have h : _ = [] := h
    rw [h]; rfl
  | d :: ds, _, 0, h => by
    obtain ⟨w, vr, rfl, q, r⟩ := h
    exact ⟨v, vr, rfl, hx, r⟩
  | d :: ds, _, i + 1, h => by
    obtain ⟨w, vr, rfl, q, r⟩ := h
    exact ⟨w, _, rfl, q, Dens.set hx i r⟩
theorem Dens.take : ∀ {ds : List D} {vs : List V} (n : Nat), Dens K μ H ds vs → Dens K μ H (ds.take n) (vs.take n)
  | _, _, 0, _ => by simp [Dens]
  | [], _, n + 1, h => by
    have h : _ = [] := h
    rw [h]; rfl
  | d :: ds, _, n + 1, h => by
    obtain ⟨v, vr, rfl, q, r⟩ := h
    exact ⟨v, _, rfl, q, Dens.take n r⟩
theorem Dens.drop : ∀ {ds : List D} {vs : List V} (n : Nat), Dens K μ H ds vs → Dens K μ H (ds.drop n) (vs.drop n)
  | _, _, 0, h => by simpa using h
  | [], _, n + 1, h => by
    have h : _ = [] := h
    rw [h]; rfl
  | d :: ds, _, n + 1, h => by
    obtain ⟨v, vr, rfl, q, r⟩ := h
    exact Dens.drop n r
theorem Dens.ints : ∀ ns : List Int, Dens K μ H (ns.map D.int) (ns.map V.int)
  | [] => rfl
  | n :: ns => ⟨_, _, rfl, rfl, Dens.ints ns⟩
end

/-- at a: an exception of the class at C, its dict at od -/
def XoH (C : Addr) (od : Option Addr) (a : Addr) (o : HO) : Prop := ∃ φ : Heap → Prop, o = .ext φ ∧ ∀ h, φ h → ∃ (oe : Obj) (vs : Array Value), h.get? a = some oe ∧ oe.cls = .ref C ∧ oe.dict = od ∧ oe.data = .fields vs
/-- an own object as it stands at a -/
def OR (K : PySem.W.Frag) (μ : List Addr) (H : Hp) (a : Addr) : Ob → Prop
  | .lst ds => ∃ vs, H a = some (.lst vs) ∧ Dens K μ H ds vs
  | .dct kvs => ∃ kws, H a = some (.dK kws) ∧ kws.map (·.1) = kvs.map (·.1) ∧ Dens K μ H (kvs.map (·.2)) (kws.map (·.2))
  | .dctT kvs => ∃ kws, H a = some (.dT kws) ∧ kws.map (·.1) = kvs.map (·.1) ∧ Dens K μ H (kvs.map (·.2)) (kws.map (·.2))
  | .dlk kvs => ∃ o kws, H a = some (.frz o (.dK kws)) ∧ kws.map (·.1) = kvs.map (·.1) ∧ Dens K μ H (kvs.map (·.2)) (kws.map (·.2))
  | .dlkT kvs => ∃ o kws, H a = some (.frz o (.dT kws)) ∧ kws.map (·.1) = kvs.map (·.1) ∧ Dens K μ H (kvs.map (·.2)) (kws.map (·.2))
  | .obj C fs => ∃ dx gs, H a = some (.ins C dx gs) ∧ gs.map (·.1) = fs.map (·.1) ∧ Dens K μ H (fs.map (·.2)) (gs.map (·.2))
  | .set P w ks => ∃ n, n ≤ ks.length ∧ H a = some (SetK P w a (fun k => ks.contains k) n)
  | .exo _ C fs => ∃ od u, H a = some u ∧ XoH C od a u ∧ ((od = none ∧ fs = []) ∨ ∃ dx gs, od = some dx ∧ H dx = some (.xd gs) ∧ gs.map (·.1) = fs.map (·.1) ∧ Dens K μ H (fs.map (·.2)) (gs.map (·.2)))

structure RelH (K : PySem.W.Frag) (μ : List Addr) (H : Hp) (h : Hh) : Prop where
  len : μ.length = h.length
  dis : ∀ (i j : Nat) (a : Addr), μ[i]? = some a → μ[j]? = some a → i = j
  obj : ∀ (i : Nat) (o : Ob), h[i]? = some o → ∃ a, μ[i]? = some a ∧ OR K μ H a o

structure RelS (K : PySem.W.Frag) (μ : List Addr) (H : Hp) (ρ : Rho) (σ : L2.St) : Prop where
  len : ρ.length = σ.length
  get : ∀ (i : Nat) (d : D), ρ[i]? = some (some d) → ∃ v, σ[i]? = some (some v) ∧ Den K μ H d v

section
variable {K : PySem.W.Frag} {μ μ' μ1 μ2 : List Addr} {H H' H1 H2 : Hp} {h h' : Hh} {ρ : Rho} {σ : L2.St}
theorem OR.some {a : Addr} {o : Ob} (x : OR K μ H a o) : ∃ u, H a = some u ∧ (o.lk = false → (∀ xs, u ≠ .tup xs) ∧ (∀ p q, u ≠ .frz p q) ∧ (∀ fs, u ≠ .xd fs)) := by
  cases o with
  | lst ds => obtain ⟨vs, e, _⟩ := x; exact ⟨_, e, fun _ => ⟨fun _ z => (by cases z), fun _ _ z => (by cases z), fun _ z => (by cases z)⟩⟩
  | dct ds => obtain ⟨vs, e, _⟩ := x; exact ⟨_, e, fun _ => ⟨fun _ z => (by cases z), fun _ _ z => (by cases z), fun _ z => (by cases z)⟩⟩
  | dctT ds => obtain ⟨vs, e, _⟩ := x; exact ⟨_, e, fun _ => ⟨fun _ z => (by cases z), fun _ _ z => (by cases z), fun _ z => (by cases z)⟩⟩
  | dlk ds => obtain ⟨o, vs, e, _⟩ := x; exact ⟨_, e, fun z => by cases z⟩
  | dlkT ds => obtain ⟨o, vs, e, _⟩ := x; exact ⟨_, e, fun z => by cases z⟩
  | obj C ds => obtain ⟨o, vs, e, _⟩ := x; exact ⟨_, e, fun _ => ⟨fun _ z => (by cases z), fun _ _ z => (by cases z), fun _ z => (by cases z)⟩⟩
  | set P w ks => obtain ⟨n, _, e⟩ := x; exact ⟨_, e, fun _ => ⟨fun _ z => (by unfold SetK at z; cases z), fun _ _ z => (by unfold SetK at z; cases z), fun _ z => (by unfold SetK at z; cases z)⟩⟩
  | exo c C fs => obtain ⟨od, u, e, ⟨φ, rfl, _⟩, _⟩ := x; exact ⟨_, e, fun _ => ⟨fun _ z => (by cases z), fun _ _ z => (by cases z), fun _ z => (by cases z)⟩⟩
/-- an object that stands as it stood -/
theorem OR.mono {a : Addr} {o : Ob} (s : Step μ H μ1 H1) (e : H1 a = H a) (x : OR K μ H a o) : OR K μ1 H1 a o := by
  cases o with
  | lst ds => obtain ⟨vs, e1, d⟩ := x; exact ⟨vs, e.trans e1, d.mono s⟩
  | dct ds => obtain ⟨vs, e1, e2, d⟩ := x; exact ⟨vs, e.trans e1, e2, d.mono s⟩
  | dctT ds => obtain ⟨vs, e1, e2, d⟩ := x; exact ⟨vs, e.trans e1, e2, d.mono s⟩
  | dlk ds => obtain ⟨o, vs, e1, e2, d⟩ := x; exact ⟨o, vs, e.trans e1, e2, d.mono s⟩
  | dlkT ds => obtain ⟨o, vs, e1, e2, d⟩ := x; exact ⟨o, vs, e.trans e1, e2, d.mono s⟩
  | obj C ds => obtain ⟨o, vs, e1, e2, d⟩ := x; exact ⟨o, vs, e.trans e1, e2, d.mono s⟩
  | set P w ks => obtain ⟨n, e1, e2⟩ := x; exact ⟨n, e1, e.trans e2⟩
  | exo c C fs =>
    obtain ⟨od, u, e1, q, z⟩ := x
    refine ⟨od, u, e.trans e1, q, ?_⟩
    rcases z with z | ⟨dx, gs, r1, r2, r3, r4⟩
    · exact .inl z
    · exact .inr ⟨dx, gs, r1, s.xd _ _ r2, r3, r4.mono s⟩
theorem RelS.mono (s : Step μ H μ1 H1) (r : RelS K μ H ρ σ) : RelS K μ1 H1 ρ σ :=
  ⟨r.len, fun i d e => let ⟨v, h1, h2⟩ := r.get i d e; ⟨v, h1, h2.mono s⟩⟩
theorem RelS.set {i : Nat} {d : D} {v : V} (r : RelS K μ H ρ σ) (hd : Den K μ H d v) : RelS K μ H (ρ.set i (some d)) (σ.set i (some v)) := by
  refine ⟨by simp [r.len], fun j e hj => ?_⟩
  by_cases hij : i = j
  · subst hij
    have hl : i < ρ.length := by
      by_cases hl : i < ρ.length
      · exact hl
      · rw [List.getElem?_eq_none (by simp; omega)] at hj
        cases hj
    rw [List.getElem?_set_self hl] at hj
    cases hj
    exact ⟨v, by rw [List.getElem?_set_self (by rw [← r.len]; exact hl)], hd⟩
  · rw [List.getElem?_set_ne hij] at hj
    obtain ⟨w, h1, h2⟩ := r.get j e hj
    exact ⟨w, by rw [List.getElem?_set_ne hij]; exact h1, h2⟩
theorem RelS.clear {i : Nat} (r : RelS K μ H ρ σ) : RelS K μ H (ρ.set i none) (σ.set i none) := by
  refine ⟨by simp [r.len], fun j e hj => ?_⟩
  by_cases hij : i = j
  · subst hij
    by_cases hl : i < ρ.length
    · rw [List.getElem?_set_self hl] at hj; cases hj
    · rw [List.getElem?_eq_none (by simp; omega)] at hj; cases hj
  · rw [List.getElem?_set_ne hij] at hj
    obtain ⟨w, h1, h2⟩ := r.get j e hj
    exact ⟨w, by rw [List.getElem?_set_ne hij]; exact h1, h2⟩
theorem RelH.notin (r : RelH K μ H h) {p : Addr} (hp : H p = none) (i : Nat) : μ[i]? ≠ some p := by
  intro e
  have hi : i < h.length := by rw [← r.len]; exact (List.getElem?_eq_some_iff.mp e).1
  obtain ⟨a, e1, x⟩ := r.obj i h[i] (List.getElem?_eq_getElem hi)
  rw [e] at e1
  cases e1
  obtain ⟨u, e2, _⟩ := x.some
  rw [hp] at e2
  cases e2
/-- a new thing that is not tracked by us -/
theorem RelH.new (r : RelH K μ H h) {p : Addr} {o : HO} (hp : H p = none) : RelH K μ (upd H p o) h :=
  ⟨r.len, r.dis, fun i o' e => by
    obtain ⟨a, e1, x⟩ := r.obj i o' e
    refine ⟨a, e1, x.mono (Step.new hp) ?_⟩
    rw [upd_ne (fun z => r.notin hp i (by rw [e1, z]))]⟩
/-- a new object of our heap -/
theorem RelH.push (r : RelH K μ H h) {p : Addr} {o : HO} {ob : Ob} (hp : H p = none) (new : OR K (μ ++ [p]) (upd H p o) p ob) : RelH K (μ ++ [p]) (upd H p o) (h ++ [ob]) := by
  refine ⟨by simp [r.len], fun i j a e1 e2 => ?_, fun i o' e => ?_⟩
  · by_cases h1 : i < μ.length
    · rw [List.getElem?_append_left h1] at e1
      by_cases h2 : j < μ.length
      · rw [List.getElem?_append_left h2] at e2
        exact r.dis i j a e1 e2
      · rw [List.getElem?_append_right (by omega)] at e2
        have : a = p := by
          cases q : j - μ.length with
          | zero => rw [q] at e2; simpa using e2.symm
          | succ n => rw [q] at e2; simp at e2
        subst this
        exact absurd e1 (r.notin hp i)
    · rw [List.getElem?_append_right (by omega)] at e1
      have ea : a = p := by
        cases q : i - μ.length with
        | zero => rw [q] at e1; simpa using e1.symm
        | succ n => rw [q] at e1; simp at e1
      subst ea
      by_cases h2 : j < μ.length
      · rw [List.getElem?_append_left h2] at e2
        exact absurd e2 (r.notin hp j)
      · have l1 : i < (μ ++ [a]).length := by
          by_cases z : i < (μ ++ [a]).length
          · exact z
          · have : i - μ.length ≥ 1 := by simp at z; omega
            rw [List.getElem?_eq_none (by simpa using this)] at e1
            cases e1
        have l2 : j < (μ ++ [a]).length := (List.getElem?_eq_some_iff.mp e2).1
        simp at l1 l2
        omega
  · by_cases h1 : i < h.length
    · rw [List.getElem?_append_left h1] at e
      obtain ⟨a, e1, x⟩ := r.obj i o' e
      refine ⟨a, (Step.newT (o := o) hp).get e1, x.mono (Step.newT hp) ?_⟩
      rw [upd_ne (fun z => r.notin hp i (by rw [e1, z]))]
    · rw [List.getElem?_append_right (by omega)] at e
      have hq : i - h.length = 0 := by
        cases q : i - h.length with
        | zero => rfl
        | succ n => rw [q] at e; simp at e
      rw [hq] at e
      have eo : ob = o' := by simpa using e
      subst eo
      have ei : i = μ.length := by rw [r.len]; omega
      subst ei
      exact ⟨p, by simp, new⟩
/-- an object of our heap changes -/
theorem RelH.put (r : RelH K μ H h) {i : Nat} {p : Addr} {o : HO} {ob ob0 : Ob} (hi : h[i]? = some ob0) (hp : μ[i]? = some p) (new : OR K μ (upd H p o) p ob) (hl : ob0.lk = false := by rfl) : RelH K μ (upd H p o) (h.set i ob) := by
  obtain ⟨a, ea, x⟩ := r.obj i ob0 hi
  rw [hp] at ea
  cases ea
  obtain ⟨u, eu, nn⟩ := x.some
  obtain ⟨n1, n2, n3⟩ := nn hl
  have st : Step μ H μ (upd H p o) := Step.set eu n1 n2 n3
  refine ⟨by simp [r.len], r.dis, fun j o' e => ?_⟩
  by_cases hij : i = j
  · subst hij
    rw [List.getElem?_set_self (List.getElem?_eq_some_iff.mp hi).1] at e
    cases e
    exact ⟨p, hp, new⟩
  · rw [List.getElem?_set_ne hij] at e
    obtain ⟨b, e1, y⟩ := r.obj j o' e
    refine ⟨b, e1, y.mono st ?_⟩
    rw [upd_ne (fun z => hij (r.dis i j p hp (by rw [e1, z])))]
end
end PI
/-! What it means that a reading is mirrored; expressions. -/
namespace PI
open PySem PySem.Spec L2
open PyProof.Rows hiding St

def Out.bind {α β : Type} (o : Out α) (f : α → Hh → Out β) : Out β := match o with
  | .ok a h => f a h
  | .err x h => .err x h
  | .bad => .bad
def Out.ofO {α : Type} : Option (α × Hh) → Out α
  | some (a, h) => .ok a h
  | none => .bad
@[simp] theorem Out.bind_ok {α β : Type} {a : α} {h : Hh} {f : α → Hh → Out β} : (Out.ok a h).bind f = f a h := rfl
@[simp] theorem Out.bind_err {α β : Type} {x : Exn} {h : Hh} {f : α → Hh → Out β} : (Out.err x h : Out α).bind f = .err x h := rfl
@[simp] theorem Out.bind_bad {α β : Type} {f : α → Hh → Out β} : (Out.bad : Out α).bind f = .bad := rfl
@[simp] theorem Out.ofO_some {α : Type} {a : α} {h : Hh} : Out.ofO (some (a, h)) = .ok a h := rfl
@[simp] theorem Out.ofO_none {α : Type} : (Out.ofO none : Out α) = .bad := rfl

abbrev Ctb := Str → Option Value
/-- how an exception of ours looks -/
def ExcR (K : PySem.W.Frag) (ct : Ctb) (μ : List Addr) (H : Hp) (x : Exn) (cls : Value) (d : Option Addr) : Prop :=
  ct x.cls = some cls ∧ ((x.fs = [] ∧ d = none) ∨ (x.fs ≠ [] ∧ ∃ dd ws, d = some dd ∧ H dd = some (.xd ws) ∧ ws.map (·.1) = x.fs.map (·.1) ∧ Dens K μ H (x.fs.map (·.2)) (ws.map (·.2))))

section
variable (K : PySem.W.Frag) (ct : Ctb) (W : WX) (σ : L2.St)
def PO {α : Type} (μ : List Addr) (H : Hp) (R : α → Hh → List Addr → Hp → Prop) : Out α → Prop
  | .ok a h' => ∀ μ' H', Step μ H μ' H' → RelH K μ' H' h' → R a h' μ' H'
  | .err x h' => ∀ μ' H' cls d, Step μ H μ' H' → RelH K μ' H' h' → ExcR K ct μ' H' x cls d → W cls d σ H'
  | .bad => False
def POo {α : Type} (μ : List Addr) (H : Hp) (R : α → Hh → List Addr → Hp → Prop) : Option (α × Hh) → Prop
  | some (a, h') => ∀ μ' H', Step μ H μ' H' → RelH K μ' H' h' → R a h' μ' H'
  | none => False
end
section
variable {K : PySem.W.Frag} {ct : Ctb} {W : WX} {σ : L2.St} {μ μ1 : List Addr} {H H1 : Hp} {α β : Type} {R R' : α → Hh → List Addr → Hp → Prop}
theorem PO.step (s : Step μ H μ1 H1) {o : Out α} (p : PO K ct W σ μ H R o) : PO K ct W σ μ1 H1 R o := by
  cases o with
  | ok a h => exact fun μ' H' s' r => p μ' H' (s.trans s') r
  | err x h => exact fun μ' H' c d s' r e => p μ' H' c d (s.trans s') r e
  | bad => exact p
theorem PO.mono {o : Out α} (p : PO K ct W σ μ H R o) (i : ∀ a h' μ' H', Step μ H μ' H' → RelH K μ' H' h' → R a h' μ' H' → R' a h' μ' H') : PO K ct W σ μ H R' o := by
  cases o with
  | ok a h => exact fun μ' H' s' r => i a h μ' H' s' r (p μ' H' s' r)
  | err x h => exact p
  | bad => exact p
theorem PO.bind {o : Out α} {f : α → Hh → Out β} {R : β → Hh → List Addr → Hp → Prop} (p : PO K ct W σ μ H R (o.bind f)) :
    PO K ct W σ μ H (fun a h1 μ1 H1 => PO K ct W σ μ1 H1 R (f a h1)) o := by
  cases o with
  | ok a h => exact fun μ' H' s' r => PO.step s' (show PO K ct W σ μ H R (f a h) from p)
  | err x h => exact p
  | bad => exact p
theorem PO.ofO {o : Option (α × Hh)} (p : PO K ct W σ μ H R (Out.ofO o)) : POo K μ H R o := by
  cases o with
  | none => exact p
  | some a => obtain ⟨a, h⟩ := a; exact p
end

/-! ### mirrored readings -/
section
variable (K : PySem.W.Frag) (ct : Ctb) (W : WX)
def rdE (m : ME) : TE := fun σ H Q => ∃ μ ρ h, RelS K μ H ρ σ ∧ RelH K μ H h ∧ PO K ct W σ μ H (fun d _ μ' H' => ∀ v, Den K μ' H' d v → Q v H') (m ρ h)
def rdA (m : MA) : TA := fun σ H Q => ∃ μ ρ h, RelS K μ H ρ σ ∧ RelH K μ H h ∧ PO K ct W σ μ H (fun d _ μ' H' => ∀ v, Dens K μ' H' d v → Q v H') (m ρ h)
def rdT (m : MT) : TT := fun σ H Q => ∃ μ ρ h, RelS K μ H ρ σ ∧ RelH K μ H h ∧ PO K ct W σ μ H (fun b _ _ H' => Q b H') (m ρ h)
def rdS (m : MS) : TS := fun D σ H => ∃ μ ρ h, RelS K μ H ρ σ ∧ RelH K μ H h ∧ match m ρ h with
  | .nx ρ' h' => ∀ μ' H' σ', Step μ H μ' H' → RelH K μ' H' h' → RelS K μ' H' ρ' σ' → D.nx σ' H'
  | .bk ρ' h' => ∀ μ' H' σ', Step μ H μ' H' → RelH K μ' H' h' → RelS K μ' H' ρ' σ' → D.bk σ' H'
  | .ct ρ' h' => ∀ μ' H' σ', Step μ H μ' H' → RelH K μ' H' h' → RelS K μ' H' ρ' σ' → D.ct σ' H'
  | .rt d h' => ∀ μ' H' v, Step μ H μ' H' → RelH K μ' H' h' → Den K μ' H' d v → D.rt v H'
  | .er x ρ' h' => ∀ μ' H' σ' cls d, Step μ H μ' H' → RelH K μ' H' h' → RelS K μ' H' ρ' σ' → ExcR K ct μ' H' x cls d → W cls d σ' H'
  | .bad => False
def r2 (g : D → D → Hh → Option (D × Hh)) : R2 := fun x y H Q => ∃ μ h a b, Den K μ H a x ∧ Den K μ H b y ∧ RelH K μ H h ∧ POo K μ H (fun d _ μ' H' => ∀ v, Den K μ' H' d v → Q v H') (g a b h)
def rN (g : List D → Hh → Option (D × Hh)) : List V → Hp → VK → Prop := fun xs H Q => ∃ μ h as, Dens K μ H as xs ∧ RelH K μ H h ∧ POo K μ H (fun d _ μ' H' => ∀ v, Den K μ' H' d v → Q v H') (g as h)
end
abbrev SE (X : Cx) (ct : Ctb) (W : WX) (e : Expr) (m : ME) : Prop := PE X e (rdE X.K ct W m)
abbrev SA (X : Cx) (ct : Ctb) (W : WX) (es : List Expr) (m : MA) : Prop := PA X es (rdA X.K ct W m)
abbrev ST (X : Cx) (ct : Ctb) (W : WX) (e : Expr) (m : MT) : Prop := PT X e (rdT X.K ct W m)
abbrev SS (X : Cx) (ct : Ctb) (W : WX) (s : Stmt) (m : MS) : Prop := PS X s (rdS X.K ct W m)
abbrev SSs (X : Cx) (ct : Ctb) (W : WX) (s : List Stmt) (m : MS) : Prop := PSs X s (rdS X.K ct W m)

section
variable {X : Cx} {ct : Ctb} {W : WX}
theorem _root_.L2.PE.imp {e : Expr} {t t' : TE} (h : PE X e t) (i : ∀ σ H Q, t' σ H Q → t σ H Q) : PE X e t' := ⟨fun pins s σ H Q I q => h.run pins s σ H Q I (i σ H Q q)⟩
theorem _root_.L2.PA.imp {e : List Expr} {t t' : TA} (h : PA X e t) (i : ∀ σ H Q, t' σ H Q → t σ H Q) : PA X e t' := ⟨fun pos pins s σ H Q I q => h.run pos pins s σ H Q I (i σ H Q q)⟩
theorem _root_.L2.PT.imp {e : Expr} {t t' : TT} (h : PT X e t) (i : ∀ σ H Q, t' σ H Q → t σ H Q) : PT X e t' := ⟨fun pins s σ H Q I q => h.run pins s σ H Q I (i σ H Q q)⟩
theorem _root_.L2.PS.imp {e : Stmt} {t t' : TS} (h : PS X e t) (i : ∀ D σ H, t' D σ H → t D σ H) : PS X e t' := ⟨fun pins s σ H D I q => h.run pins s σ H D I (i D σ H q)⟩
theorem _root_.L2.PSs.imp {e : List Stmt} {t t' : TS} (h : PSs X e t) (i : ∀ D σ H, t' D σ H → t D σ H) : PSs X e t' := ⟨fun pins s σ H D I q => h.run pins s σ H D I (i D σ H q)⟩

/-- the first part of a computation, then the rest -/
theorem rdE.go {K : PySem.W.Frag} {ma : ME} {β : Type} {f : D → Hh → Out β} {σ : L2.St} {H : Hp} {ρ : Rho} {h : Hh} {μ : List Addr} {R : β → Hh → List Addr → Hp → Prop} (rs : RelS K μ H ρ σ) (rh : RelH K μ H h) (p : PO K ct W σ μ H R ((ma ρ h).bind f))
    {Q : VK} (k : ∀ d h1 μ1 H1 v, Step μ H μ1 H1 → RelS K μ1 H1 ρ σ → RelH K μ1 H1 h1 → Den K μ1 H1 d v → PO K ct W σ μ1 H1 R (f d h1) → Q v H1) : rdE K ct W ma σ H Q :=
  ⟨μ, ρ, h, rs, rh, p.bind.mono fun d h1 μ1 H1 s r q v dv => k d h1 μ1 H1 v s (rs.mono s) r dv q⟩
theorem rdA.go {K : PySem.W.Frag} {ma : MA} {β : Type} {f : List D → Hh → Out β} {σ : L2.St} {H : Hp} {ρ : Rho} {h : Hh} {μ : List Addr} {R : β → Hh → List Addr → Hp → Prop} (rs : RelS K μ H ρ σ) (rh : RelH K μ H h) (p : PO K ct W σ μ H R ((ma ρ h).bind f))
    {Q : List V → Hp → Prop} (k : ∀ d h1 μ1 H1 v, Step μ H μ1 H1 → RelS K μ1 H1 ρ σ → RelH K μ1 H1 h1 → Dens K μ1 H1 d v → PO K ct W σ μ1 H1 R (f d h1) → Q v H1) : rdA K ct W ma σ H Q :=
  ⟨μ, ρ, h, rs, rh, p.bind.mono fun d h1 μ1 H1 s r q v dv => k d h1 μ1 H1 v s (rs.mono s) r dv q⟩
theorem rdT.go {K : PySem.W.Frag} {ma : MT} {β : Type} {f : Bool → Hh → Out β} {σ : L2.St} {H : Hp} {ρ : Rho} {h : Hh} {μ : List Addr} {R : β → Hh → List Addr → Hp → Prop} (rs : RelS K μ H ρ σ) (rh : RelH K μ H h) (p : PO K ct W σ μ H R ((ma ρ h).bind f))
    {Q : Bool → Hp → Prop} (k : ∀ d h1 μ1 H1, Step μ H μ1 H1 → RelS K μ1 H1 ρ σ → RelH K μ1 H1 h1 → PO K ct W σ μ1 H1 R (f d h1) → Q d H1) : rdT K ct W ma σ H Q :=
  ⟨μ, ρ, h, rs, rh, p.bind.mono fun d h1 μ1 H1 s r q => k d h1 μ1 H1 s (rs.mono s) r q⟩
/-- an end -/
theorem PO.at {K : PySem.W.Frag} {σ : L2.St} {α : Type} {μ : List Addr} {H : Hp} {R : α → Hh → List Addr → Hp → Prop} {a : α} {h : Hh} (rh : RelH K μ H h) (p : PO K ct W σ μ H R (.ok a h)) : R a h μ H := p μ H Step.refl rh

/-! ### names and constants -/
def mC (d : D) : ME := fun _ h => .ok d h
def mVar (i : Nat) : ME := fun ρ h => match ρ[i]? with
  | some (some d) => .ok d h
  | _ => .bad
theorem se_var (i : Nat) {x : Str} {pos : Pos} (hN : X.N[i]? = some x := by rfl) (hv : Vis X.env.scope x := by first | exact Or.inl rfl | exact Or.inr (Or.inl rfl) | exact Or.inr (Or.inr rfl)) (hd : (x == ("__debug__" : Str)) = false := by decide)
    (hcd : (x == ("__classdict__" : Str)) = false := by decide) : SE X ct W (.Name x pos) (mVar i) :=
  (pe_var hN hv hd hcd).imp fun σ H Q ⟨μ, ρ, h, rs, rh, p⟩ => by
    unfold mVar at p
    split at p
    · rename_i d e
      obtain ⟨v, e1, dv⟩ := rs.get i d e
      exact ⟨v, e1, p.at rh v dv⟩
    · exact p.elim
theorem se_c {e : Expr} {v : V} {d : D} (h : PE X e (tC v)) (hd : ∀ μ H, Den X.K μ H d v) : SE X ct W e (mC d) :=
  h.imp fun σ H Q ⟨μ, ρ, h, rs, rh, p⟩ => p.at rh v (hd μ H)
theorem se_int {i j pos} : SE X ct W (.Constant (.int i) j pos) (mC (.int i)) := se_c pe_int fun _ _ => rfl
theorem se_bl {i j pos} : SE X ct W (.Constant (.bool i) j pos) (mC (.bl i)) := se_c pe_bl fun _ _ => rfl
theorem se_non {j pos} : SE X ct W (.Constant .none j pos) (mC .non) := se_c pe_non fun _ _ => rfl
theorem se_str {i j pos} : SE X ct W (.Constant (.str i) j pos) (mC (.str i)) := se_c pe_str fun _ _ => rfl
/-! ### argument lists -/
def mNil : MA := fun _ h => .ok [] h
def mCons (m : ME) (r : MA) : MA := fun ρ h => (m ρ h).bind fun d h1 => (r ρ h1).bind fun ds h2 => .ok (d :: ds) h2
theorem sa_nil : SA X ct W [] mNil := L2.PA.imp pa_nil fun σ H Q ⟨μ, ρ, h, rs, rh, p⟩ => p.at rh [] rfl
theorem sa_cons {e : Expr} {es : List Expr} {m : ME} {r : MA} (ha : SE X ct W e m) (hr : SA X ct W es r) (hs : starEach (e :: es) X.env = (false, eval e X.env) :: starEach es X.env := by rfl) : SA X ct W (e :: es) (mCons m r) :=
  L2.PA.imp (pa_cons ha hr hs) fun σ H Q ⟨μ, ρ, h, rs, rh, p⟩ => rdE.go rs rh p fun d h1 μ1 H1 v s1 rs1 rh1 dv p1 => rdA.go rs1 rh1 p1 fun ds h2 μ2 H2 vs s2 rs2 rh2 dvs p2 =>
    p2.at rh2 (v :: vs) ⟨v, vs, rfl, dv.mono s2, dvs⟩
/-! ### operators by values -/
def mOp (g : D → D → Hh → Option (D × Hh)) (ma mb : ME) : ME := fun ρ h => (ma ρ h).bind fun a h1 => (mb ρ h1).bind fun b h2 => Out.ofO (g a b h2)
theorem op_go {g : D → D → Hh → Option (D × Hh)} {ma mb : ME} (σ : L2.St) (H : Hp) (Q : VK) (q : rdE X.K ct W (mOp g ma mb) σ H Q) : tOp (r2 X.K g) (rdE X.K ct W ma) (rdE X.K ct W mb) σ H Q := by
  obtain ⟨μ, ρ, h, rs, rh, p⟩ := q
  exact rdE.go rs rh p fun a h1 μ1 H1 v s1 rs1 rh1 da p1 => rdE.go rs1 rh1 p1 fun b h2 μ2 H2 w s2 rs2 rh2 db p2 => ⟨μ2, h2, a, b, da.mono s2, db, rh2, p2.ofO⟩
theorem se_op {a b : Expr} {op : Operator} {pos : Pos} {g : D → D → Hh → Option (D × Hh)} {ma mb : ME} (ho : OpR X (binaryOp op) (r2 X.K g)) (ha : SE X ct W a ma) (hb : SE X ct W b mb) : SE X ct W (.BinOp a op b pos) (mOp g ma mb) :=
  (pe_op ho ha hb).imp op_go
theorem se_cmp {a b : Expr} {op : CmpOp} {pos : Pos} {g : D → D → Hh → Option (D × Hh)} {ma mb : ME} (ho : OpR X (compareOp op) (r2 X.K g)) (ha : SE X ct W a ma) (hb : SE X ct W b mb) (hm : behindInMarks op b = false) : SE X ct W (.Compare a [op] [b] pos) (mOp g ma mb) :=
  (pe_cmpR ho ha hb hm).imp op_go
theorem se_ix {a b : Expr} {pos : Pos} {g : D → D → Hh → Option (D × Hh)} {ma mb : ME} (ho : IxR X (r2 X.K g)) (ha : SE X ct W a ma) (hb : SE X ct W b mb) (hs : PlainIx b) : SE X ct W (.Subscript a b pos) (mOp g ma mb) :=
  (pe_ix ho ha hb hs).imp op_go
/-- a built-in by its name -/
def mB (g : List D → Hh → Option (D × Hh)) (ma : MA) : ME := fun ρ h => (ma ρ h).bind fun as h1 => Out.ofO (g as h1)
theorem b_go {g : List D → Hh → Option (D × Hh)} {ma : MA} (σ : L2.St) (H : Hp) (Q : VK) (q : rdE X.K ct W (mB g ma) σ H Q) : tCB (rN X.K g) (rdA X.K ct W ma) σ H Q := by
  obtain ⟨μ, ρ, h, rs, rh, p⟩ := q
  exact rdA.go rs rh p fun as h1 μ1 H1 v s1 rs1 rh1 da p1 => ⟨μ1, h1, as, da, rh1, p1.ofO⟩
theorem se_callB {id : String} {x : Str} {e : Expr} {es : List Expr} {p pos : Pos} {g : List D → Hh → Option (D × Hh)} {ma : MA} (hc : CallR X (.builtin id) (rN X.K g)) (hg : Gl X x) (hm : X.mg x = none) (hv : bootBuiltins x = some (.builtin id)) (ha : SA X ct W (e :: es) ma) (hn : x ≠ "__name__" := by decide) (hdb : (x == ("__debug__" : Str)) = false := by decide)
    (he : starEach (e :: es) X.env = (false, eval e X.env) :: starEach es X.env := by rfl) (hpl : (backTo pos (starEach es X.env)).any (·.1) = false := by rfl) : SE X ct W (.Call (.Name x p) (e :: es) [] pos) (mB g ma) :=
  (pe_callB hc hg hm hv ha hn hdb he hpl).imp b_go
theorem se_callTy {id : String} {x : Str} {e : Expr} {es : List Expr} {p pos : Pos} {g : List D → Hh → Option (D × Hh)} {ma : MA} (hc : CallR X (.type id) (rN X.K g)) (hg : Gl X x) (hm : X.mg x = none) (hv : bootBuiltins x = some (.type id)) (ha : SA X ct W (e :: es) ma) (hn : x ≠ "__name__" := by decide) (hdb : (x == ("__debug__" : Str)) = false := by decide)
    (he : starEach (e :: es) X.env = (false, eval e X.env) :: starEach es X.env := by rfl) (hpl : (backTo pos (starEach es X.env)).any (·.1) = false := by rfl) : SE X ct W (.Call (.Name x p) (e :: es) [] pos) (mB g ma) :=
  (pe_callTy hc hg hm hv ha hn hdb he hpl).imp b_go
/-! ### displays -/
def mTup (ma : MA) : ME := fun ρ h => (ma ρ h).bind fun as h1 => if as.length ≤ sizeLine then .ok (.tup as) h1 else .bad
def mLst (ma : MA) : ME := fun ρ h => (ma ρ h).bind fun as h1 => if as.length ≤ sizeLine then .ok (.ref h1.length) (h1 ++ [.lst as]) else .bad
theorem new_lst {K : PySem.W.Frag} {μ : List Addr} {H : Hp} {h : Hh} {as : List D} {vs : List V} (rh : RelH K μ H h) (dv : Dens K μ H as vs) {p : Addr} (hp : H p = none) :
    Step μ H (μ ++ [p]) (upd H p (.lst vs)) ∧ RelH K (μ ++ [p]) (upd H p (.lst vs)) (h ++ [.lst as]) ∧ Den K (μ ++ [p]) (upd H p (.lst vs)) (.ref h.length) (.ref p) := by
  have s : Step μ H (μ ++ [p]) (upd H p (.lst vs)) := Step.newT hp
  exact ⟨s, rh.push hp ⟨vs, upd_same, dv.mono s⟩, p, rfl, by rw [← rh.len]; simp⟩
theorem new_tup {K : PySem.W.Frag} {μ : List Addr} {H : Hp} {h : Hh} {as : List D} {vs : List V} (rh : RelH K μ H h) (dv : Dens K μ H as vs) {p : Addr} (hp : H p = none) :
    Step μ H μ (upd H p (.tup vs)) ∧ RelH K μ (upd H p (.tup vs)) h ∧ Den K μ (upd H p (.tup vs)) (.tup as) (.ref p) := by
  have s : Step μ H μ (upd H p (.tup vs)) := Step.new hp
  exact ⟨s, rh.new hp, p, vs, rfl, upd_same, dv.mono s⟩
theorem se_tup {es : List Expr} {k : Nat} {pos : Pos} {ma : MA} (ha : SA X ct W es ma) : SE X ct W (.Tuple es k pos) (mTup ma) :=
  (pe_tup ha).imp fun σ H Q ⟨μ, ρ, h, rs, rh, p⟩ => rdA.go rs rh p fun as h1 μ1 H1 vs s1 rs1 rh1 dv p1 => by
    split at p1
    · rename_i hl
      refine ⟨by rw [dv.length]; exact hl, fun q hq => ?_⟩
      obtain ⟨s, r, d⟩ := new_tup rh1 dv hq
      exact p1 _ _ s r _ d
    · exact p1.elim
theorem se_lst {es : List Expr} {pos : Pos} {ma : MA} (ha : SA X ct W es ma) : SE X ct W (.List es pos) (mLst ma) :=
  (pe_lst ha).imp fun σ H Q ⟨μ, ρ, h, rs, rh, p⟩ => rdA.go rs rh p fun as h1 μ1 H1 vs s1 rs1 rh1 dv p1 => by
    split at p1
    · rename_i hl
      refine ⟨by rw [dv.length]; exact hl, fun q hq => ?_⟩
      obtain ⟨s, r, d⟩ := new_lst rh1 dv hq
      exact p1 _ _ s r _ d
    · exact p1.elim
/-! ### tests, truth -/
def mTest (m : ME) : MT := fun ρ h => (m ρ h).bind fun d h1 => match d with
  | .bl b => .ok b h1
  | _ => .bad
theorem test_go {m : ME} (σ : L2.St) (H : Hp) (Q : Bool → Hp → Prop) (q : rdT X.K ct W (mTest m) σ H Q) : tTest (rdE X.K ct W m) σ H Q := by
  obtain ⟨μ, ρ, h, rs, rh, p⟩ := q
  refine rdE.go rs rh p fun d h1 μ1 H1 v s1 rs1 rh1 dv p1 => ?_
  split at p1
  · exact ⟨_, dv, p1.at rh1⟩
  · exact p1.elim
theorem st_cmp {a b : Expr} {op : CmpOp} {pos : Pos} {g : D → D → Hh → Option (D × Hh)} {ma mb : ME} (ho : OpR X (compareOp op) (r2 X.K g)) (ha : SE X ct W a ma) (hb : SE X ct W b mb) (hm : behindInMarks op b = false) : ST X ct W (.Compare a [op] [b] pos) (mTest (mOp g ma mb)) :=
  (pt_cmpR ho ha hb hm).imp fun σ H Q q => by
    obtain ⟨μ, ρ, h, rs, rh, p⟩ := test_go σ H Q q
    exact op_go σ H _ ⟨μ, ρ, h, rs, rh, p⟩
/-- an expression that gives True or False -/
theorem st_val {e : Expr} {m : ME} (he : SE X ct W e m) (h : ∀ {t : TE}, PE X e t → PT X e (tB t) := by exact fun h => pt_val h) : ST X ct W e (mTest m) :=
  (h he).imp fun σ H Q q => test_go σ H Q q
def mOr (a b : MT) : MT := fun ρ h => (a ρ h).bind fun c h1 => if c = true then .ok true h1 else b ρ h1
def mNot (a : MT) : MT := fun ρ h => (a ρ h).bind fun c h1 => .ok (!c) h1
abbrev SW (X : Cx) (ct : Ctb) (W : WX) (e : Expr) (m : MT) : Prop := PW X e (rdT X.K ct W m)
theorem _root_.L2.PW.imp {e : Expr} {t t' : TT} (h : PW X e t) (i : ∀ σ H Q, t' σ H Q → t σ H Q) : PW X e t' := ⟨fun whole pins s σ H Q I q => h.run whole pins s σ H Q I (i σ H Q q)⟩
theorem sw_or1 {a : Expr} {m : MT} {pos : Pos} (h : ST X ct W a m) : SW X ct W (.BoolOp .Or [a] pos) m := pw_or1 h
theorem sw_or {a b : Expr} {rest : List Expr} {ma mb : MT} {pos : Pos} (ha : ST X ct W a ma) (hb : SW X ct W (.BoolOp .Or (b :: rest) pos) mb) : SW X ct W (.BoolOp .Or (a :: b :: rest) pos) (mOr ma mb) :=
  (pw_or ha hb).imp fun σ H Q ⟨μ, ρ, h, rs, rh, p⟩ => rdT.go rs rh p fun c h1 μ1 H1 s1 rs1 rh1 p1 => by
    cases c with
    | true => exact p1.at rh1
    | false => exact ⟨μ1, ρ, h1, rs1, rh1, p1⟩
theorem st_w {e : Expr} {m : MT} (h : SW X ct W e m) : ST X ct W e m := PW.pt h
theorem st_not {a : Expr} {m : MT} {pos : Pos} (h : ST X ct W a m) : ST X ct W (.UnaryOp .Not a pos) (mNot m) :=
  (pt_not h).imp fun σ H Q ⟨μ, ρ, h, rs, rh, p⟩ => rdT.go rs rh p fun c h1 μ1 H1 s1 rs1 rh1 p1 => p1.at rh1
/-- and, or, not as values, all but the last True or False -/
def mAndV (a b : ME) : ME := fun ρ h => (mTest a ρ h).bind fun c h1 => if c = true then b ρ h1 else .ok (.bl false) h1
theorem bool_go {K : PySem.W.Frag} {ma : ME} {β : Type} {f : Bool → Hh → Out β} {σ : L2.St} {H : Hp} {ρ : Rho} {h : Hh} {μ : List Addr} {R : β → Hh → List Addr → Hp → Prop} (rs : RelS K μ H ρ σ) (rh : RelH K μ H h) (p : PO K ct W σ μ H R ((mTest ma ρ h).bind f))
    {Q : VK} (k : ∀ c h1 μ1 H1, Step μ H μ1 H1 → RelS K μ1 H1 ρ σ → RelH K μ1 H1 h1 → PO K ct W σ μ1 H1 R (f c h1) → Q (.bl c) H1) : rdE K ct W ma σ H Q := by
  have p' : PO K ct W σ μ H R ((ma ρ h).bind fun d h1 => (match d with | .bl b => Out.ok b h1 | _ => .bad : Out Bool).bind f) := by
    unfold mTest at p
    cases e : ma ρ h with
    | ok d h1 => rw [e] at p; exact p
    | err x h1 => rw [e] at p; exact p
    | bad => rw [e] at p; exact p
  refine rdE.go rs rh p' fun d h1 μ1 H1 v s1 rs1 rh1 dv p1 => ?_
  cases d with
  | bl b =>
    have dv : v = .bl b := dv
    subst dv
    exact k b h1 μ1 H1 s1 rs1 rh1 p1
  | _ => exact p1.elim
theorem se_and1 {a : Expr} {m : ME} {op : BoolOp} {pos : Pos} (h : SE X ct W a m) : SE X ct W (.BoolOp op [a] pos) m := pe_one h
theorem se_and {a b : Expr} {rest : List Expr} {ma mb : ME} {pos : Pos} (ha : SE X ct W a ma) (hb : SE X ct W (.BoolOp .And (b :: rest) pos) mb) : SE X ct W (.BoolOp .And (a :: b :: rest) pos) (mAndV ma mb) :=
  (pe_and ha hb).imp fun σ H Q ⟨μ, ρ, h, rs, rh, p⟩ => bool_go rs rh p fun c h1 μ1 H1 s1 rs1 rh1 p1 => ⟨c, rfl, by
    cases c with
    | true => exact ⟨μ1, ρ, h1, rs1, rh1, p1⟩
    | false => exact p1.at rh1 _ rfl⟩
def mIf (t : MT) (a b : ME) : ME := fun ρ h => (t ρ h).bind fun c h1 => if c = true then a ρ h1 else b ρ h1
theorem se_if {t a b : Expr} {mt : MT} {ma mb : ME} {pos : Pos} (ht : ST X ct W t mt) (ha : SE X ct W a ma) (hb : SE X ct W b mb) : SE X ct W (.IfExp t a b pos) (mIf mt ma mb) :=
  (pe_ifExp ht ha hb).imp fun σ H Q ⟨μ, ρ, h, rs, rh, p⟩ => rdT.go rs rh p fun c h1 μ1 H1 s1 rs1 rh1 p1 => by
    cases c with
    | true => exact ⟨μ1, ρ, h1, rs1, rh1, p1⟩
    | false => exact ⟨μ1, ρ, h1, rs1, rh1, p1⟩
end
end PI
/-! Statements, loops, calls of defs, exceptions. -/
namespace PI
open PySem PySem.Spec L2
open PyProof.Rows hiding St

/-- what follows a statement's mirror -/
def PSt (K : PySem.W.Frag) (ct : Ctb) (W : WX) (μ : List Addr) (H : Hp) (D : Ends) : OutS → Prop
  | .nx ρ' h' => ∀ μ' H' σ', Step μ H μ' H' → RelH K μ' H' h' → RelS K μ' H' ρ' σ' → D.nx σ' H'
  | .bk ρ' h' => ∀ μ' H' σ', Step μ H μ' H' → RelH K μ' H' h' → RelS K μ' H' ρ' σ' → D.bk σ' H'
  | .ct ρ' h' => ∀ μ' H' σ', Step μ H μ' H' → RelH K μ' H' h' → RelS K μ' H' ρ' σ' → D.ct σ' H'
  | .rt d h' => ∀ μ' H' v, Step μ H μ' H' → RelH K μ' H' h' → Den K μ' H' d v → D.rt v H'
  | .er x ρ' h' => ∀ μ' H' σ' cls d, Step μ H μ' H' → RelH K μ' H' h' → RelS K μ' H' ρ' σ' → ExcR K ct μ' H' x cls d → W cls d σ' H'
  | .bad => False
section
variable {K : PySem.W.Frag} {ct : Ctb} {W : WX} {μ μ1 : List Addr} {H H1 : Hp} {D D' : Ends} {o : OutS}
theorem PSt.step (s : Step μ H μ1 H1) (p : PSt K ct W μ H D o) : PSt K ct W μ1 H1 D o := by
  cases o with
  | nx ρ h => exact fun μ' H' σ' s' => p μ' H' σ' (s.trans s')
  | bk ρ h => exact fun μ' H' σ' s' => p μ' H' σ' (s.trans s')
  | ct ρ h => exact fun μ' H' σ' s' => p μ' H' σ' (s.trans s')
  | rt d h => exact fun μ' H' σ' s' => p μ' H' σ' (s.trans s')
  | er x ρ h => exact fun μ' H' σ' c d s' => p μ' H' σ' c d (s.trans s')
  | bad => exact p
end
def Out.bindS {α : Type} (o : Out α) (ρ : Rho) (f : α → Hh → OutS) : OutS := match o with
  | .ok a h => f a h
  | .err x h => .er x ρ h
  | .bad => .bad
def OutS.seq (o : OutS) (f : Rho → Hh → OutS) : OutS := match o with
  | .nx ρ h => f ρ h
  | o => o
@[simp] theorem Out.bindS_ok {α : Type} {a : α} {h : Hh} {ρ : Rho} {f : α → Hh → OutS} : (Out.ok a h).bindS ρ f = f a h := rfl
@[simp] theorem Out.bindS_err {α : Type} {x : Exn} {h : Hh} {ρ : Rho} {f : α → Hh → OutS} : (Out.err x h : Out α).bindS ρ f = .er x ρ h := rfl
@[simp] theorem Out.bindS_bad {α : Type} {ρ : Rho} {f : α → Hh → OutS} : (Out.bad : Out α).bindS ρ f = .bad := rfl
@[simp] theorem OutS.seq_nx {ρ : Rho} {h : Hh} {f : Rho → Hh → OutS} : (OutS.nx ρ h).seq f = f ρ h := rfl
@[simp] theorem OutS.seq_rt {d : D} {h : Hh} {f : Rho → Hh → OutS} : (OutS.rt d h).seq f = .rt d h := rfl
@[simp] theorem OutS.seq_bk {ρ : Rho} {h : Hh} {f : Rho → Hh → OutS} : (OutS.bk ρ h).seq f = .bk ρ h := rfl
@[simp] theorem OutS.seq_ct {ρ : Rho} {h : Hh} {f : Rho → Hh → OutS} : (OutS.ct ρ h).seq f = .ct ρ h := rfl
@[simp] theorem OutS.seq_er {x : Exn} {ρ : Rho} {h : Hh} {f : Rho → Hh → OutS} : (OutS.er x ρ h).seq f = .er x ρ h := rfl
@[simp] theorem OutS.seq_bad {f : Rho → Hh → OutS} : (OutS.bad).seq f = .bad := rfl

section
variable {X : Cx} {ct : Ctb} {W : WX}
theorem PSt.bindS {K : PySem.W.Frag} {α : Type} {o : Out α} {ρ : Rho} {f : α → Hh → OutS} {μ : List Addr} {H : Hp} {D : Ends} {σ : L2.St} (rs : RelS K μ H ρ σ) (p : PSt K ct W μ H D (o.bindS ρ f)) :
    PO K ct W σ μ H (fun a h1 μ1 H1 => PSt K ct W μ1 H1 D (f a h1)) o := by
  cases o with
  | ok a h => exact fun μ' H' s' r => PSt.step s' (show PSt K ct W μ H D (f a h) from p)
  | err x h => exact fun μ' H' c d s r e => p μ' H' σ c d s r (rs.mono s) e
  | bad => exact p
theorem rdE.goS {K : PySem.W.Frag} {ma : ME} {f : D → Hh → OutS} {σ : L2.St} {H : Hp} {ρ : Rho} {h : Hh} {μ : List Addr} {D : Ends} (rs : RelS K μ H ρ σ) (rh : RelH K μ H h) (p : PSt K ct W μ H D ((ma ρ h).bindS ρ f))
    {Q : VK} (k : ∀ d h1 μ1 H1 v, Step μ H μ1 H1 → RelS K μ1 H1 ρ σ → RelH K μ1 H1 h1 → Den K μ1 H1 d v → PSt K ct W μ1 H1 D (f d h1) → Q v H1) : rdE K ct W ma σ H Q :=
  ⟨μ, ρ, h, rs, rh, (PSt.bindS rs p).mono fun d h1 μ1 H1 s r q v dv => k d h1 μ1 H1 v s (rs.mono s) r dv q⟩
theorem rdA.goS {K : PySem.W.Frag} {ma : MA} {f : List D → Hh → OutS} {σ : L2.St} {H : Hp} {ρ : Rho} {h : Hh} {μ : List Addr} {D : Ends} (rs : RelS K μ H ρ σ) (rh : RelH K μ H h) (p : PSt K ct W μ H D ((ma ρ h).bindS ρ f))
    {Q : List V → Hp → Prop} (k : ∀ d h1 μ1 H1 v, Step μ H μ1 H1 → RelS K μ1 H1 ρ σ → RelH K μ1 H1 h1 → Dens K μ1 H1 d v → PSt K ct W μ1 H1 D (f d h1) → Q v H1) : rdA K ct W ma σ H Q :=
  ⟨μ, ρ, h, rs, rh, (PSt.bindS rs p).mono fun d h1 μ1 H1 s r q v dv => k d h1 μ1 H1 v s (rs.mono s) r dv q⟩
theorem rdT.goS {K : PySem.W.Frag} {ma : MT} {f : Bool → Hh → OutS} {σ : L2.St} {H : Hp} {ρ : Rho} {h : Hh} {μ : List Addr} {D : Ends} (rs : RelS K μ H ρ σ) (rh : RelH K μ H h) (p : PSt K ct W μ H D ((ma ρ h).bindS ρ f))
    {Q : Bool → Hp → Prop} (k : ∀ d h1 μ1 H1, Step μ H μ1 H1 → RelS K μ1 H1 ρ σ → RelH K μ1 H1 h1 → PSt K ct W μ1 H1 D (f d h1) → Q d H1) : rdT K ct W ma σ H Q :=
  ⟨μ, ρ, h, rs, rh, (PSt.bindS rs p).mono fun d h1 μ1 H1 s r q => k d h1 μ1 H1 s (rs.mono s) r q⟩

/-! ### blocks -/
def mNx : MS := fun ρ h => .nx ρ h
def mSeq (a b : MS) : MS := fun ρ h => (a ρ h).seq b
theorem sss_nil : SSs X ct W [] mNx := ⟨fun pins s σ H D I ⟨μ, ρ, h, rs, rh, p⟩ => wpAny_execs_nil ⟨σ, H, I, p μ H σ Step.refl rh rs⟩⟩
theorem seq_go {K : PySem.W.Frag} {a b : MS} {D : Ends} {σ : L2.St} {H : Hp} (q : rdS K ct W (mSeq a b) D σ H) : rdS K ct W a { D with nx := rdS K ct W b D } σ H := by
  obtain ⟨μ, ρ, h, rs, rh, p⟩ := q
  refine ⟨μ, ρ, h, rs, rh, ?_⟩
  have p : PSt K ct W μ H D ((a ρ h).seq b) := p
  cases e : a ρ h with
  | nx ρ' h' =>
    rw [e] at p
    exact fun μ' H' σ' s r rs' => ⟨μ', ρ', h', rs', r, PSt.step s p⟩
  | bk ρ' h' => rw [e] at p; exact p
  | ct ρ' h' => rw [e] at p; exact p
  | rt d h' => rw [e] at p; exact p
  | er x ρ' h' => rw [e] at p; exact p
  | bad => rw [e] at p; exact p
theorem sss_cons {s : Stmt} {r : List Stmt} {a b : MS} (h1 : SS X ct W s a) (h2 : SSs X ct W r b) : SSs X ct W (s :: r) (mSeq a b) :=
  L2.PSs.imp (pss_cons h1 h2) fun D σ H q => seq_go q
theorem sss_one {s : Stmt} {a : MS} (h1 : SS X ct W s a) : SSs X ct W [s] a :=
  L2.PSs.imp (pss_one h1) fun D σ H q => q
def mRet (m : ME) : MS := fun ρ h => (m ρ h).bindS ρ fun d h1 => .rt d h1
theorem ss_ret {e : Expr} {m : ME} {pos : Pos} (he : SE X ct W e m) : SS X ct W (.Return (some e) pos) (mRet m) :=
  (ps_ret he).imp fun D σ H ⟨μ, ρ, h, rs, rh, p⟩ => rdE.goS rs rh p fun d h1 μ1 H1 v s1 rs1 rh1 dv p1 => p1 μ1 H1 v Step.refl rh1 dv
def mDrop (m : ME) : MS := fun ρ h => (m ρ h).bindS ρ fun _ h1 => .nx ρ h1
theorem ss_expr {e : Expr} {m : ME} {pos : Pos} (he : SE X ct W e m) (hs : swapsWith e none pos.line X.env = pure false := by rfl) : SS X ct W (.Expr e pos) (mDrop m) :=
  (ps_expr he hs).imp fun D σ H ⟨μ, ρ, h, rs, rh, p⟩ => rdE.goS rs rh p fun d h1 μ1 H1 v s1 rs1 rh1 dv p1 => p1 μ1 H1 σ Step.refl rh1 rs1
def mIfS (t : MT) (a b : MS) : MS := fun ρ h => (t ρ h).bindS ρ fun c h1 => if c = true then a ρ h1 else b ρ h1
theorem ss_if {t : Expr} {a b : List Stmt} {mt : MT} {ma mb : MS} {pos : Pos} (ht : ST X ct W t mt) (ha : SSs X ct W a ma) (hb : SSs X ct W b mb) : SS X ct W (.If t a b pos) (mIfS mt ma mb) :=
  (ps_if ht ha hb).imp fun D σ H ⟨μ, ρ, h, rs, rh, p⟩ => rdT.goS rs rh p fun c h1 μ1 H1 s1 rs1 rh1 p1 => by
    cases c with
    | true => exact ⟨μ1, ρ, h1, rs1, rh1, p1⟩
    | false => exact ⟨μ1, ρ, h1, rs1, rh1, p1⟩

/-! ### targets: a value stored -/
abbrev MG := D → Rho → Hh → Option (Rho × Hh)
def rdG (K : PySem.W.Frag) (m : MG) : TG := fun v σ H Q => ∃ μ ρ h d, RelS K μ H ρ σ ∧ RelH K μ H h ∧ Den K μ H d v ∧ match m d ρ h with
  | some (ρ', h') => ∀ μ' H' σ', Step μ H μ' H' → RelH K μ' H' h' → RelS K μ' H' ρ' σ' → Q σ' H'
  | none => False
abbrev MGs := List D → Rho → Hh → Option (Rho × Hh)
def rdGs (K : PySem.W.Frag) (m : MGs) : TGs := fun vs σ H Q => ∃ μ ρ h ds, RelS K μ H ρ σ ∧ RelH K μ H h ∧ Dens K μ H ds vs ∧ match m ds ρ h with
  | some (ρ', h') => ∀ μ' H' σ', Step μ H μ' H' → RelH K μ' H' h' → RelS K μ' H' ρ' σ' → Q σ' H'
  | none => False
abbrev SG (X : Cx) (tg : Expr) (m : MG) : Prop := PG X tg (rdG X.K m)
abbrev SGs (X : Cx) (tg : List Expr) (m : MGs) : Prop := PGs X tg (rdGs X.K m)
theorem _root_.L2.PG.imp {e : Expr} {t t' : TG} (h : PG X e t) (i : ∀ v σ H Q, t' v σ H Q → t v σ H Q) : PG X e t' := ⟨fun pins s σ H v u Q I r q => h.run pins s σ H v u Q I r (i v σ H Q q)⟩
theorem _root_.L2.PGs.imp {e : List Expr} {t t' : TGs} (h : PGs X e t) (i : ∀ v σ H Q, t' v σ H Q → t v σ H Q) : PGs X e t' := ⟨fun pins s σ H v u Q I r q => h.run pins s σ H v u Q I r (i v σ H Q q)⟩
def gmName (i : Nat) : MG := fun d ρ h => some (ρ.set i (some d), h)
theorem sg_name {i : Nat} {x : Str} {pos : Pos} (hN : X.N.Nodup) (hi : X.N[i]? = some x) (hx : Loc X.env.scope x) (hf : X.fn x = true ∨ X.env.scope.names.lookup x = some .local := by first | exact .inl rfl | exact .inr rfl | assumption) : SG X (.Name x pos) (gmName i) :=
  (pg_name hN hi hx hf).imp fun v σ H Q ⟨μ, ρ, h, d, rs, rh, dv, p⟩ => p μ H _ Step.refl rh (rs.set dv)
def gmNil : MGs := fun ds ρ h => match ds with
  | [] => some (ρ, h)
  | _ => none
def gmCons (a : MG) (b : MGs) : MGs := fun ds ρ h => match ds with
  | d :: r => (a d ρ h).bind fun p => b r p.1 p.2
  | [] => none
theorem sgs_nil : SGs X [] gmNil := pgs_nil.imp fun vs σ H Q ⟨μ, ρ, h, ds, rs, rh, dv, p⟩ => by
  cases ds with
  | nil =>
    have dv : vs = [] := dv
    exact ⟨dv, p μ H σ Step.refl rh rs⟩
  | cons d r => exact p.elim
theorem sgs_cons {e : Expr} {es : List Expr} {a : MG} {b : MGs} (h1 : SG X e a) (h2 : SGs X es b) (hs : (assignEach (e :: es) X.env).map (·.2) = assign e X.env :: (assignEach es X.env).map (·.2) := by rfl) : SGs X (e :: es) (gmCons a b) :=
  (pgs_cons h1 h2 hs).imp fun vs σ H Q ⟨μ, ρ, h, ds, rs, rh, dv, p⟩ => by
    cases ds with
    | nil => exact p.elim
    | cons d r =>
      obtain ⟨v, vr, e, q1, q2⟩ := dv
      refine ⟨v, vr, e, μ, ρ, h, d, rs, rh, q1, ?_⟩
      have p : (match (a d ρ h).bind fun p => b r p.1 p.2 with
        | some (ρ', h') => ∀ μ' H' σ', Step μ H μ' H' → RelH X.K μ' H' h' → RelS X.K μ' H' ρ' σ' → Q σ' H'
        | none => False) := p
      cases ea : a d ρ h with
      | none => rw [ea] at p; exact p.elim
      | some z =>
        obtain ⟨ρ1, h1⟩ := z
        rw [ea] at p
        intro μ1 H1 σ1 s1 rh1 rs1
        refine ⟨μ1, ρ1, h1, r, rs1, rh1, q2.mono s1, ?_⟩
        have p : (match b r ρ1 h1 with
          | some (ρ', h') => ∀ μ' H' σ', Step μ H μ' H' → RelH X.K μ' H' h' → RelS X.K μ' H' ρ' σ' → Q σ' H'
          | none => False) := p
        cases eb : b r ρ1 h1 with
        | none => rw [eb] at p; exact p.elim
        | some z =>
          obtain ⟨ρ2, h2⟩ := z
          rw [eb] at p
          exact fun μ2 H2 σ2 s2 => p μ2 H2 σ2 (s1.trans s2)
/-- target = value -/
def mAsg (m : ME) (g : MG) : MS := fun ρ h => (m ρ h).bindS ρ fun d h1 => match g d ρ h1 with
  | some (ρ', h') => .nx ρ' h'
  | none => .bad
theorem asg_go {m : ME} {g : MG} {D : Ends} {σ : L2.St} {H : Hp} (q : rdS X.K ct W (mAsg m g) D σ H) : tAsg (rdE X.K ct W m) (rdG X.K g) D σ H := by
  obtain ⟨μ, ρ, h, rs, rh, p⟩ := q
  refine rdE.goS rs rh p fun d h1 μ1 H1 v s1 rs1 rh1 dv p1 => ⟨μ1, ρ, h1, d, rs1, rh1, dv, ?_⟩
  cases e : g d ρ h1 with
  | none =>
    have p1 : PSt X.K ct W μ1 H1 D (match g d ρ h1 with | some (ρ', h') => .nx ρ' h' | none => .bad) := p1
    rw [e] at p1
    exact p1.elim
  | some z =>
    have p1 : PSt X.K ct W μ1 H1 D (match g d ρ h1 with | some (ρ', h') => .nx ρ' h' | none => .bad) := p1
    rw [e] at p1
    exact p1
theorem ss_asg {tg e : Expr} {m : ME} {g : MG} {pos : Pos} (he : SE X ct W e m) (hg : SG X tg g) (hs : swapsWithSole [tg] e pos.line X.env = pure false := by rfl) (hw : swappedStores [tg] e X.env = pure none := by rfl)
    (h1 : (assignEach [tg] X.env).map (·.2) = [assign tg X.env] := by rfl) : SS X ct W (.Assign [tg] e pos) (mAsg m g) :=
  (ps_asg he hg hs hw h1).imp fun D σ H q => asg_go q
def mSet (i : Nat) (m : ME) : MS := fun ρ h => (m ρ h).bindS ρ fun d h1 => .nx (ρ.set i (some d)) h1
theorem ss_set {i : Nat} {x : Str} {e : Expr} {m : ME} {pos pos' : Pos} (hN : X.N.Nodup) (hi : X.N[i]? = some x) (hx : Loc X.env.scope x) (he : SE X ct W e m) (hs : swapsWith e (some (.Name x pos')) pos.line X.env = pure false := by rfl) (hf : X.fn x = true ∨ X.env.scope.names.lookup x = some .local := by first | exact .inl rfl | exact .inr rfl | assumption) :
    SS X ct W (.Assign [.Name x pos'] e pos) (mSet i m) :=
  (ps_set hN hi hx he hs hf).imp fun D σ H ⟨μ, ρ, h, rs, rh, p⟩ => rdE.goS rs rh p fun d h1 μ1 H1 v s1 rs1 rh1 dv p1 => p1 μ1 H1 _ Step.refl rh1 (rs1.set dv)
/-- a, b = x, y -/
def mPar (i j : Nat) (ma : MA) : MS := fun ρ h => (ma ρ h).bindS ρ fun ds h1 => match ds with
  | [d, e] => .nx ((ρ.set i (some d)).set j (some e)) h1
  | _ => .bad
theorem ss_par {i j : Nat} {x y : Str} {a b : Expr} {ma : MA} {px py pt pos : Pos} {kt k2 pt2} (hc : X.calm = true) (hN : X.N.Nodup) (hi : X.N[i]? = some x) (hj : X.N[j]? = some y) (hij : i ≠ j)
    (hx : X.env.scope.names.lookup x = some .local) (hy : X.env.scope.names.lookup y = some .local) (ha : SA X ct W [a, b] ma)
    (hw : swappedStores [.Tuple [.Name x px, .Name y py] kt pt] (.Tuple [a, b] k2 pt2) X.env = pure (some [x, y]))
    (hs : swapsWithSole [.Tuple [.Name x px, .Name y py] kt pt] (.Tuple [a, b] k2 pt2) pos.line X.env = pure false := by rfl) :
    SS X ct W (.Assign [.Tuple [.Name x px, .Name y py] kt pt] (.Tuple [a, b] k2 pt2) pos) (mPar i j ma) :=
  (ps_par hc hN hi hj hij hx hy ha hw hs).imp fun D σ H ⟨μ, ρ, h, rs, rh, p⟩ => rdA.goS rs rh p fun ds h1 μ1 H1 vs s1 rs1 rh1 dv p1 => by
    split at p1
    · obtain ⟨v, vr, rfl, q1, w, wr, rfl, q2, q3⟩ := dv
      have q3 : wr = [] := q3
      subst q3
      exact ⟨v, w, rfl, p1 μ1 H1 _ Step.refl rh1 ((rs1.set q1).set q2)⟩
    · exact p1.elim
/-! ### while -/
def whileL (c : MT) (b : MS) : Nat → MS
  | 0, _, _ => .bad
  | n + 1, ρ, h => (c ρ h).bindS ρ fun t h1 => if t = true then
      match b ρ h1 with
      | .nx ρ' h' => whileL c b n ρ' h'
      | .ct ρ' h' => whileL c b n ρ' h'
      | .bk ρ' h' => .nx ρ' h'
      | .rt d h' => .rt d h'
      | .er x ρ' h' => .er x ρ' h'
      | .bad => .bad
    else .nx ρ h1
/-! ### for -/
/-- what a walked thing gives, turn by turn: the item, or the end, from the heap as it stands -/
structure MIt where
  /-- none: it can't be told; some none: the end; some (some d): an item -/
  at_ : Nat → Hh → Option (Option D)
  /-- at most so many turns -/
  most : Nat
abbrev MI := Rho → Hh → Out MIt
/-- the mirror J of an iterator It -/
structure ItR (K : PySem.W.Frag) (μ : List Addr) (H : Hp) (J : It) (j : MIt) : Prop where
  stop : ∀ i μ' H' h', Step μ H μ' H' → RelH K μ' H' h' → j.at_ i h' = some none → J.stop i H'
  go : ∀ i μ' H' h' d, Step μ H μ' H' → RelH K μ' H' h' → j.at_ i h' = some (some d) → J.go i H' ∧ ∀ x H'', J.yld i H' x H'' → Step μ' H' μ' H'' ∧ RelH K μ' H'' h' ∧ Den K μ' H'' d x
def rdI (K : PySem.W.Frag) (ct : Ctb) (W : WX) (m : MI) : TI := fun σ H R => ∃ μ ρ h, RelS K μ H ρ σ ∧ RelH K μ H h ∧ PO K ct W σ μ H (fun j _ μ' H' => ∀ J, ItR K μ' H' J j → R J H') (m ρ h)
theorem _root_.L2.PI.imp {tg e : Expr} {t t' : TI} (h : L2.PI X tg e t) (i : ∀ σ H R, t' σ H R → t σ H R) : L2.PI X tg e t' := ⟨fun pins s σ H R I q => h.run pins s σ H R I (i σ H R q)⟩
def forL (j : MIt) (g : MG) (b : MS) : Nat → Nat → MS
  | 0, i, ρ, h => match j.at_ i h with
    | some none => .nx ρ h
    | _ => .bad
  | n + 1, i, ρ, h => match j.at_ i h with
    | some none => .nx ρ h
    | some (some d) => match g d ρ h with
      | none => .bad
      | some (ρ1, h1) => match b ρ1 h1 with
        | .nx ρ' h' => forL j g b n (i + 1) ρ' h'
        | .ct ρ' h' => forL j g b n (i + 1) ρ' h'
        | .bk ρ' h' => .nx ρ' h'
        | .rt d h' => .rt d h'
        | .er x ρ' h' => .er x ρ' h'
        | .bad => .bad
    | none => .bad
def mFor (m : MI) (g : MG) (b : MS) : MS := fun ρ h => (m ρ h).bindS ρ fun j h1 => forL j g b j.most 0 ρ h1
theorem ss_for {tg iter : Expr} {body : List Stmt} {pos : Pos} {m : MI} {g : MG} {b : MS} (hp : PassesOwn (model X.prog X.w) X.A X.env X.xe) (hc : X.calm = true) (hi : L2.PI X tg iter (rdI X.K ct W m)) (hg : SG X tg g) (hb : SSs X ct W body b)
    (hs : ∀ x, foldedSetIterable iter X.env x = pure x := by intro _; rfl) : SS X ct W (.For tg iter body [] pos) (mFor m g b) :=
  (ps_for hp hc hi hg hb hs).imp fun D σ H ⟨μ, ρ, h, rs, rh, p⟩ => by
    refine ⟨μ, ρ, h, rs, rh, (PSt.bindS (W := W) rs p).mono fun j h1 μ1 H1 s1 rh1 p1 J ij => ?_⟩
    have rs1 := rs.mono s1
    refine ⟨fun i m σ' H' => ∃ μ' ρ' h', Step μ1 H1 μ' H' ∧ RelS X.K μ' H' ρ' σ' ∧ RelH X.K μ' H' h' ∧ PSt X.K ct W μ' H' D (forL j g b m i ρ' h'), ⟨j.most, μ1, ρ, h1, Step.refl, rs1, rh1, p1⟩, ?_⟩
    rintro i m σ' H' ⟨μ', ρ', h', st, rs', rh', p'⟩
    have stop : j.at_ i h' = some none → PSt X.K ct W μ' H' D (.nx ρ' h') → (J.stop i H' ∧ D.nx σ' H') := fun e q => ⟨ij.stop i μ' H' h' st rh' e, q μ' H' σ' Step.refl rh' rs'⟩
    cases m with
    | zero =>
      unfold forL at p'
      split at p'
      · rename_i e
        exact .inl (stop e p')
      · exact p'.elim
    | succ m =>
      unfold forL at p'
      split at p'
      · rename_i e
        exact .inl (stop e p')
      · rename_i d e
        obtain ⟨go, yl⟩ := ij.go i μ' H' h' d st rh' e
        refine .inr ⟨go, fun σ2 H2 => ∃ μ2 ρ2 h2, Step μ1 H1 μ2 H2 ∧ RelS X.K μ2 H2 ρ2 σ2 ∧ RelH X.K μ2 H2 h2 ∧ PSt X.K ct W μ2 H2 D (forL j g b m (i + 1) ρ2 h2), fun σ2 H2 w2 => ⟨m, Nat.lt_succ_self _, w2⟩, fun x H'' y => ?_⟩
        obtain ⟨st2, rh2, dx⟩ := yl x H'' y
        refine ⟨μ', ρ', h', d, rs'.mono st2, rh2, dx, ?_⟩
        cases eg : g d ρ' h' with
        | none => rw [eg] at p'; exact p'.elim
        | some z =>
          obtain ⟨ρ3, h3⟩ := z
          rw [eg] at p'
          intro μ3 H3 σ3 st3 rh3 rs3
          have st4 := (st.trans st2).trans st3
          have p' : PSt X.K ct W μ' H' D (match b ρ3 h3 with
            | .nx ρ' h' => forL j g b m (i + 1) ρ' h'
            | .ct ρ' h' => forL j g b m (i + 1) ρ' h'
            | .bk ρ' h' => .nx ρ' h'
            | .rt d h' => .rt d h'
            | .er x ρ' h' => .er x ρ' h'
            | .bad => .bad) := p'
          have p' := PSt.step (st2.trans st3) p'
          refine ⟨μ3, ρ3, h3, rs3, rh3, ?_⟩
          cases e : b ρ3 h3 with
          | nx ρ2 h2 => rw [e] at p'; exact fun μ2 H2 σ2 s2 rh2 rs2 => ⟨μ2, ρ2, h2, st4.trans s2, rs2, rh2, PSt.step s2 p'⟩
          | ct ρ2 h2 => rw [e] at p'; exact fun μ2 H2 σ2 s2 rh2 rs2 => ⟨μ2, ρ2, h2, st4.trans s2, rs2, rh2, PSt.step s2 p'⟩
          | bk ρ2 h2 => rw [e] at p'; exact p'
          | rt d h2 => rw [e] at p'; exact p'
          | er x ρ2 h2 => rw [e] at p'; exact p'
          | bad => rw [e] at p'; exact p'
      · exact p'.elim
end
end PI
/-! Defs, calls, exceptions. -/
namespace PI
open PySem PySem.Spec L2
open PyProof.Rows hiding St

/-- what a def gives, by its mirror f -/
def spM (K : PySem.W.Frag) (ct : Ctb) (n : Nat) (f : FnM) : Sp := fun vs H Q E => ∃ μ h ds, ds.length = n ∧ Dens K μ H ds vs ∧ RelH K μ H h ∧ PO K ct (fun c d _ H' => E c d H') [] μ H (fun d _ μ' H' => ∀ v, Den K μ' H' d v → Q v H') (f ds h)
def OutS.out : OutS → Out D
  | .nx _ h => .ok .non h
  | .rt d h => .ok d h
  | .er x _ h => .err x h
  | _ => .bad
@[simp] theorem OutS.out_nx {ρ : Rho} {h : Hh} : (OutS.nx ρ h).out = .ok .non h := rfl
@[simp] theorem OutS.out_rt {d : D} {h : Hh} : (OutS.rt d h).out = .ok d h := rfl
@[simp] theorem OutS.out_er {x : Exn} {ρ : Rho} {h : Hh} : (OutS.er x ρ h).out = .err x h := rfl
/-- the mirror of a def with N names -/
def mFn (N : Nat) (b : MS) : FnM := fun ds h => (b (ds.map some ++ List.replicate (N - ds.length) none) h).out
theorem PO.wish {K : PySem.W.Frag} {ct : Ctb} {W W' : WX} {σ σ' : L2.St} {α : Type} {μ : List Addr} {H : Hp} {R : α → Hh → List Addr → Hp → Prop} {o : Out α} (p : PO K ct W σ μ H R o) (i : ∀ c d H', W c d σ H' → W' c d σ' H') : PO K ct W' σ' μ H R o := by
  cases o with
  | ok a h => exact p
  | err x h => exact fun μ' H' c d s r e => i _ _ _ (p μ' H' c d s r e)
  | bad => exact p
theorem starts {K : PySem.W.Frag} {μ : List Addr} {H : Hp} {ds : List D} {vs : List V} (N : List Str) (dv : Dens K μ H ds vs) : RelS K μ H (ds.map some ++ List.replicate (N.length - ds.length) none) (L2.start N vs) := by
  have hl := dv.length
  refine ⟨by unfold L2.start; simp [hl], fun i d e => ?_⟩
  by_cases hi : i < ds.length
  · rw [List.getElem?_append_left (by simpa using hi), List.getElem?_map] at e
    cases q : ds[i]? with
    | none => rw [q] at e; cases e
    | some d' =>
      rw [q] at e
      cases e
      obtain ⟨v, e1, e2⟩ := dv.get q
      refine ⟨v, ?_, e2⟩
      unfold L2.start
      rw [List.getElem?_append_left (by simp; omega), List.getElem?_map, e1]
      rfl
  · rw [List.getElem?_append_right (by simp; omega), List.getElem?_replicate] at e
    split at e <;> cases e
section
variable {P : Program} {w : World} {K : PySem.W.Frag} {mg : Str → Option Value} {base : Heap} {ct : Ctb}
/-- THE RULE for a def -/
theorem fn_ok {x qual : Str} {st : Stmt} {f : Addr} {fd : FuncData} {N ps : List Str} {k : Nat} {b : MS} (F : Fun K x qual st f fd) (S : FnScope N ps (defScope st))
    (hbody : ∀ (cdv : Value) (A : Around) (outer : List Env) (s : Shared) (H : Hp) (E : XK), Room k (A.deeper (envOfC qual (defScope st) s.heap.objs.size f cdv)) →
      Takes (cxOf (L2.CX P w) P w K mg base N qual (defScope st) f cdv A outer s H E) (fun c d _ H' => E c d H') →
      PassesOwn (model P w) (cxOf (L2.CX P w) P w K mg base N qual (defScope st) f cdv A outer s H E).A (cxOf (L2.CX P w) P w K mg base N qual (defScope st) f cdv A outer s H E).env (cxOf (L2.CX P w) P w K mg base N qual (defScope st) f cdv A outer s H E).xe →
      SSs (cxOf (L2.CX P w) P w K mg base N qual (defScope st) f cdv A outer s H E) ct (fun c d _ H' => E c d H') (defBody st) b) : FnOk P w K mg base (L2.CX P w) (k + 1) f fd ps (spM K ct ps.length (mFn N.length b)) := by
  refine F.okX S (fun vs H Q E h => ?_) (fun cdv A outer s H vs Q E hr h => ⟨_, hbody cdv A outer s H E hr (takes_of rfl rfl rfl rfl) (passes_of rfl), ?_⟩)
  · obtain ⟨μ, h, ds, e, dv, _⟩ := h
    rw [dv.length, e]
  · obtain ⟨μ, h, ds, e, dv, rh, p⟩ := h
    refine ⟨μ, _, h, starts N dv, rh, ?_⟩
    have p : PO K ct (fun c d _ H' => E c d H') [] μ H (fun d _ μ' H' => ∀ v, Den K μ' H' d v → Q v H') (b (ds.map some ++ List.replicate (N.length - ds.length) none) h).out := p
    cases eb : b (ds.map some ++ List.replicate (N.length - ds.length) none) h with
    | nx ρ h' => rw [eb] at p; exact fun μ' H' σ' s r _ => p μ' H' s r .non rfl
    | rt d h' => rw [eb] at p; exact fun μ' H' v s r dv => p μ' H' s r v dv
    | er x ρ h' => rw [eb] at p; exact fun μ' H' σ' c d s r _ e => p μ' H' c d s r e
    | bk ρ h' => rw [eb] at p; exact p.elim
    | ct ρ h' => rw [eb] at p; exact p.elim
    | bad => rw [eb] at p; exact p.elim
end

/-! ### calls -/
section
variable {X : Cx} {ct : Ctb} {W : WX}
def mCall (n : Nat) (f : FnM) (ma : MA) : ME := fun ρ h => (ma ρ h).bind fun ds h1 => if ds.length = n then f ds h1 else .bad
theorem call_go {n : Nat} {f : FnM} {ma : MA} (σ : L2.St) (H : Hp) (Q : VK) (q : rdE X.K ct W (mCall n f ma) σ H Q) : tCallS (spM X.K ct n f) (WE W) (rdA X.K ct W ma) σ H Q := by
  obtain ⟨μ, ρ, h, rs, rh, p⟩ := q
  refine rdA.go rs rh p fun ds h1 μ1 H1 vs s1 rs1 rh1 dv p1 => ?_
  by_cases hl : ds.length = n
  · rw [if_pos hl] at p1
    exact ⟨μ1, h1, ds, hl, dv, rh1, p1.wish fun _ _ _ z => z⟩
  · rw [if_neg hl] at p1
    exact p1.elim
theorem se_call {k n : Nat} {fa : Addr} {fd : FuncData} {ps : List Str} {f : FnM} {x : Str} {p pos : Pos} {e : Expr} {es : List Expr} {ma : MA} (F : FnOk X.prog X.w X.K X.mg X.base (L2.CX X.prog X.w) k fa fd ps (spM X.K ct n f)) (hr : Room k X.A) (hg : Gl X x) (hm : X.mg x = some (.ref fa)) (hk : PySem.W.keepIn X.K (.ref fa) = true) (hb : Binds X.K fd ps []) (tk : Takes X W)
    (ha : SA X ct W (e :: es) ma) (hdb : (x == ("__debug__" : Str)) = false := by decide) (he : starEach (e :: es) X.env = (false, eval e X.env) :: starEach es X.env := by rfl) (hpl : (backTo pos (starEach es X.env)).any (·.1) = false := by rfl) :
    SE X ct W (.Call (.Name x p) (e :: es) [] pos) (mCall n f ma) :=
  (pe_callS F hr hg hm hk hb (fun σ => passAt tk σ) ha hdb he hpl).imp call_go
/-- keyword arguments alone: g puts them into the parameters' order -/
abbrev SK (X : Cx) (ct : Ctb) (W : WX) (kws : List Keyword) (m : MA) : Prop := PK X kws (rdA X.K ct W m)
theorem sk_nil : SK X ct W [] mNil := ⟨fun _ _ _ _ _ _ I ⟨μ, ρ, h, rs, rh, p⟩ => pk_nil.run default _ _ _ _ _ I (p.at rh [] rfl)⟩
theorem sk_cons {nm : Option Str} {e : Expr} {kpos : Pos} {kws : List Keyword} {m : ME} {r : MA} (ha : SE X ct W e m) (hr : SK X ct W kws r) : SK X ct W (⟨nm, e, kpos⟩ :: kws) (mCons m r) :=
  ⟨fun pos pins s σ H Q I ⟨μ, ρ, h, rs, rh, p⟩ => (pk_cons ha hr).run pos pins s σ H Q I (rdE.go rs rh p fun d h1 μ1 H1 v s1 rs1 rh1 dv p1 => rdA.go rs1 rh1 p1 fun ds h2 μ2 H2 vs s2 rs2 rh2 dvs p2 =>
    p2.at rh2 (v :: vs) ⟨v, vs, rfl, dv.mono s2, dvs⟩)⟩
/-- the places of the keywords' values among the parameters -/
def perm {α : Type} (pl : List Nat) (xs : List α) : List α := pl.filterMap fun i => xs[i]?
theorem Vals.perm {xs : List V} {us : List Value} (r : Vals xs us) : ∀ pl : List Nat, Vals (perm pl xs) (perm pl us)
  | [] => .nil
  | i :: pl => by
    have t := Vals.perm r pl
    unfold PI.perm at *
    cases e : xs[i]? with
    | none =>
      have e2 := Vals.none_of r e
      rw [List.filterMap_cons_none e, List.filterMap_cons_none e2]
      exact t
    | some x =>
      obtain ⟨u, e2, q⟩ := Vals.get r e
      rw [List.filterMap_cons_some e, List.filterMap_cons_some e2]
      exact .cons q t
theorem Dens.perm {K : PySem.W.Frag} {μ : List Addr} {H : Hp} {ds : List D} {vs : List V} (r : Dens K μ H ds vs) : ∀ pl : List Nat, Dens K μ H (perm pl ds) (perm pl vs)
  | [] => rfl
  | i :: pl => by
    have t := Dens.perm r pl
    unfold PI.perm at *
    cases e : ds[i]? with
    | none =>
      have e2 : vs[i]? = none := by
        rw [List.getElem?_eq_none_iff] at e ⊢
        rw [r.length]; exact e
      rw [List.filterMap_cons_none e, List.filterMap_cons_none e2]
      exact t
    | some x =>
      obtain ⟨u, e2, q⟩ := r.get e
      rw [List.filterMap_cons_some e, List.filterMap_cons_some e2]
      exact ⟨_, _, rfl, q, t⟩
/-- a def as its callers see it -/
structure FnI (P : Program) (w : World) (K : PySem.W.Frag) (mg : Str → Option Value) (base : Heap) (ct : Ctb) (k : Nat) (x : Str) (ps : List Str) (f : FnM) : Prop where
  ex : ∃ fa fd, mg x = some (.ref fa) ∧ PySem.W.keepIn K (.ref fa) = true ∧ Binds K fd ps [] ∧ FnOk P w K mg base (L2.CX P w) k fa fd ps (spM K ct ps.length f)
theorem se_callI {k n : Nat} {ps : List Str} {f : FnM} {x : Str} {p pos : Pos} {e : Expr} {es : List Expr} {ma : MA} (F : FnI X.prog X.w X.K X.mg X.base ct k x ps f) (hn : ps.length = n) (hr : Room k X.A) (hg : Gl X x) (tk : Takes X W)
    (ha : SA X ct W (e :: es) ma) (hdb : (x == ("__debug__" : Str)) = false := by decide) (he : starEach (e :: es) X.env = (false, eval e X.env) :: starEach es X.env := by rfl) (hpl : (backTo pos (starEach es X.env)).any (·.1) = false := by rfl) :
    SE X ct W (.Call (.Name x p) (e :: es) [] pos) (mCall n f ma) := by
  obtain ⟨fa, fd, hm, hk, hb, hF⟩ := F.ex
  subst hn
  exact se_call hF hr hg hm hk hb tk ha hdb he hpl
/-- keyword arguments bind so -/
def KwB (fd : FuncData) (ps ks : List Str) (pl : List Nat) : Prop := ∀ (s : Shared) (ws : List Value), (perm pl ws).length = ps.length → BindsTo s fd ⟨[], ks.zip ws⟩ (ps.zip (perm pl ws))
/-- an own exception class without an __init__ -/
structure ExcI (K : PySem.W.Frag) (mg : Str → Option Value) (x : Str) (C : Addr) : Prop where
  g : mg x = some (.ref C)
  x : PySem.W.excIn K C [.type "ValueError", .type "Exception", .type "BaseException", .type "object"] "ValueError.__new__" = true
  k : PySem.W.keepIn K (.ref C) = true
  b : PySem.W.subIn K (.ref C) (.type "BaseException") = some true
  t : PySem.W.typeIn K (.ref C) = some (.type "type")
  i : PySem.W.isClsIn K C = true
/-! ### raise, try -/
end
end PI
/-! Operations by values. -/
namespace PI
open PySem PySem.Spec L2
open PyProof.Rows hiding St

abbrev G2 := D → D → Hh → Option (D × Hh)
abbrev GN := List D → Hh → Option (D × Hh)
section
variable {K : PySem.W.Frag} {μ : List Addr} {H : Hp} {h : Hh} {Q : VK}
/-- an end that makes nothing -/
theorem POo.fin {d : D} (rh : RelH K μ H h) (p : POo K μ H (fun d _ μ' H' => ∀ v, Den K μ' H' d v → Q v H') (some (d, h))) {v : V} (dv : Den K μ H d v) : Q v H := p μ H Step.refl rh v dv
theorem POo.finL {as : List D} {vs : List V} (rh : RelH K μ H h) (dv : Dens K μ H as vs) (p : POo K μ H (fun d _ μ' H' => ∀ v, Den K μ' H' d v → Q v H') (some (.ref h.length, h ++ [.lst as]))) (q : Addr) (hq : H q = none) : Q (.ref q) (upd H q (.lst vs)) := by
  obtain ⟨s, r, d⟩ := new_lst rh dv hq
  exact p _ _ s r _ d
theorem POo.finT {as : List D} {vs : List V} (rh : RelH K μ H h) (dv : Dens K μ H as vs) (p : POo K μ H (fun d _ μ' H' => ∀ v, Den K μ' H' d v → Q v H') (some (.tup as, h))) (q : Addr) (hq : H q = none) : Q (.ref q) (upd H q (.tup vs)) := by
  obtain ⟨s, r, d⟩ := new_tup rh dv hq
  exact p _ _ s r _ d
theorem den_lst {i : Nat} {v : V} {xs : List D} (rh : RelH K μ H h) (dv : Den K μ H (.ref i) v) (hi : h[i]? = some (.lst xs)) : ∃ a vs, v = .ref a ∧ μ[i]? = some a ∧ H a = some (.lst vs) ∧ Dens K μ H xs vs := by
  obtain ⟨a, e, ha⟩ := dv
  obtain ⟨b, hb, vs, hv, d⟩ := rh.obj i _ hi
  rw [ha] at hb
  cases hb
  exact ⟨a, vs, e, ha, hv, d⟩
theorem Den.to_int {i : Int} {v : V} (h : Den K μ H (.int i) v) : v = .int i := h
theorem Den.to_str {i : Str} {v : V} (h : Den K μ H (.str i) v) : v = .str i := h
theorem Den.to_bl {i : Bool} {v : V} (h : Den K μ H (.bl i) v) : v = .bl i := h
theorem Den.to_non {v : V} (h : Den K μ H .non v) : v = .non := h
end

/-! ### numbers -/
def mulOk (i j : Int) : Bool := decide ((-(2 ^ 64) < i ∧ i < 2 ^ 64) ∨ (-(2 ^ 64) < j ∧ j < 2 ^ 64)) || decide (i.natAbs.log2 + j.natAbs.log2 < 1000000)
def divOk (j : Int) : Bool := decide (0 < j) && (decide (j < 1073741824) || decide (j.natAbs.log2 < 9000))
def powOk (i j : Int) : Bool := decide (0 ≤ j ∧ j ≤ 1000000 ∧ i.natAbs < 2 ^ 64)
theorem mulOk_l {i j : Int} (h : -(2 ^ 64) < i ∧ i < 2 ^ 64) : mulOk i j = true := by unfold mulOk; rw [decide_eq_true (.inl h)]; rfl
theorem mulOk_r {i j : Int} (h : -(2 ^ 64) < j ∧ j < 2 ^ 64) : mulOk i j = true := by unfold mulOk; rw [decide_eq_true (.inr h)]; rfl
theorem mulOk_w {i j : Int} (h : i.natAbs.log2 + j.natAbs.log2 < 1000000) : mulOk i j = true := by unfold mulOk; rw [decide_eq_true h, Bool.or_true]
theorem divOk_n {j : Int} (h : 0 < j) (h2 : j < 1073741824) : divOk j = true := by unfold divOk; rw [decide_eq_true h, decide_eq_true h2]; rfl
def oAdd : G2
  | .int i, .int j, h => some (.int (i + j), h)
  | .str x, .str y, h => if x.length + y.length ≤ sizeLine then some (.str (x ++ y), h) else none
  | .tup xs, .tup ys, h => if xs.length + ys.length ≤ sizeLine then some (.tup (xs ++ ys), h) else none
  | .ref a, .ref b, h => match h[a]?, h[b]? with
    | some (.lst xs), some (.lst ys) => if xs.length + ys.length ≤ sizeLine then some (.ref h.length, h ++ [.lst (xs ++ ys)]) else none
    | _, _ => none
  | _, _, _ => none
def oSub : G2
  | .int i, .int j, h => some (.int (i - j), h)
  | _, _, _ => none
def oMul : G2
  | .int i, .int j, h => if mulOk i j = true then some (.int (i * j), h) else none
  | .ref a, .int k, h => match h[a]? with
    | some (.lst xs) => if -(2 ^ 63) ≤ k ∧ k < 2 ^ 63 ∧ xs.length * k.toNat ≤ sizeLine then some (.ref h.length, h ++ [.lst (List.replicate k.toNat xs).flatten]) else none
    | _ => none
  | _, _, _ => none
def oFdiv : G2
  | .int i, .int j, h => if divOk j = true then some (.int (i / j), h) else none
  | _, _, _ => none
def oMod : G2
  | .int i, .int j, h => if 0 < j then some (.int (i % j), h) else none
  | _, _, _ => none
def oPow : G2
  | .int i, .int j, h => if powOk i j = true then some (.int (i ^ j.toNat), h) else none
  | _, _, _ => none
theorem Dens.rep {K : PySem.W.Frag} {μ : List Addr} {H : Hp} {ds : List D} {vs : List V} (d : Dens K μ H ds vs) : ∀ n, Dens K μ H (List.replicate n ds).flatten (List.replicate n vs).flatten
  | 0 => rfl
  | n + 1 => by
    rw [List.replicate_succ, List.replicate_succ, List.flatten_cons, List.flatten_cons]
    exact d.append (Dens.rep d n)
theorem Dens.nil_iff {K : PySem.W.Frag} {μ : List Addr} {H : Hp} {ds : List D} {vs : List V} (d : Dens K μ H ds vs) : vs = [] ↔ ds = [] := by
  have := d.length
  constructor
  · rintro rfl; exact List.eq_nil_of_length_eq_zero (by simpa using this.symm)
  · rintro rfl; exact List.eq_nil_of_length_eq_zero (by simpa using this)
section
variable {X : Cx}
theorem op_addM : OpR X (binaryOp .Add) (r2 X.K oAdd) := by
  intro pins s σ H x y v u Q I rx ry ⟨μ, h, a, b, da, db, rh, p⟩
  unfold oAdd at p
  split at p
  · exact op_add pins s σ H x y v u Q I rx ry ⟨_, _, da, db, p.fin rh rfl⟩
  · split at p
    · rename_i hl
      exact op_add_str pins s σ H x y v u Q I rx ry ⟨_, _, da, db, hl, p.fin rh rfl⟩
    · exact p.elim
  · split at p
    · rename_i xs ys hl
      obtain ⟨a1, vs, rfl, q1, d1⟩ := da
      obtain ⟨a2, ws, rfl, q2, d2⟩ := db
      refine op_catA pins s σ H _ _ v u Q I rx ry ⟨a1, a2, vs, ws, rfl, rfl, SqT.of q1, SqT.of q2, by rw [d1.length, d2.length]; exact hl, fun e => ?_, fun e1 e2 => ?_, fun e1 e2 q hq => p.finT rh (d1.append d2) q hq⟩
      · have e := d1.nil_iff.mp e
        subst e
        exact p.fin rh ⟨a2, ws, rfl, q2, d2⟩
      · have e2 := d2.nil_iff.mp e2
        subst e2
        rw [List.append_nil] at p
        exact p.fin rh ⟨a1, vs, rfl, q1, d1⟩
    · exact p.elim
  · split at p
    · rename_i e1 e2
      split at p
      · rename_i hl
        obtain ⟨a1, vs, rfl, _, q1, d1⟩ := den_lst rh da e1
        obtain ⟨a2, ws, rfl, _, q2, d2⟩ := den_lst rh db e2
        exact op_cat pins s σ H _ _ v u Q I rx ry ⟨a1, a2, vs, ws, rfl, rfl, q1, q2, by rw [d1.length, d2.length]; exact hl, fun q hq => p.finL rh (d1.append d2) q hq⟩
      · exact p.elim
    · exact p.elim
  · exact p.elim
theorem op_mulM : OpR X (binaryOp .Mult) (r2 X.K oMul) := by
  intro pins s σ H x y v u Q I rx ry ⟨μ, h, a, b, da, db, rh, p⟩
  unfold oMul at p
  split at p
  · split at p
    · rename_i i j hm
      unfold mulOk at hm
      rcases Bool.or_eq_true_iff.mp hm with hm | hm
      · have hq := of_decide_eq_true hm
        exact op_mul pins s σ H x y v u Q I rx ry ⟨_, _, da, db, hq, p.fin rh rfl⟩
      · have hq := of_decide_eq_true hm
        exact op_mulW pins s σ H x y v u Q I rx ry ⟨_, _, da, db, hq, p.fin rh rfl⟩
    · exact p.elim
  · split at p
    · rename_i e1
      split at p
      · rename_i hl
        obtain ⟨a1, vs, rfl, _, q1, d1⟩ := den_lst rh da e1
        exact op_rep pins s σ H _ _ v u Q I rx ry ⟨a1, _, vs, rfl, db, q1, hl.1, hl.2.1, by rw [d1.length]; exact hl.2.2, fun q hq => p.finL rh (d1.rep _) q hq⟩
      · exact p.elim
    · exact p.elim
  · exact p.elim
theorem op_fdivM : OpR X (binaryOp .FloorDiv) (r2 X.K oFdiv) := by
  intro pins s σ H x y v u Q I rx ry ⟨μ, h, a, b, da, db, rh, p⟩
  unfold oFdiv at p
  split at p
  · split at p
    · rename_i i j hm
      unfold divOk at hm
      obtain ⟨h0, hm⟩ := Bool.and_eq_true_iff.mp hm
      rcases Bool.or_eq_true_iff.mp hm with hm | hm
      · exact op_fdiv pins s σ H x y v u Q I rx ry ⟨_, _, da, db, ⟨of_decide_eq_true h0, of_decide_eq_true hm⟩, p.fin rh rfl⟩
      · exact op_fdivW pins s σ H x y v u Q I rx ry ⟨_, _, da, db, ⟨of_decide_eq_true h0, of_decide_eq_true hm⟩, p.fin rh rfl⟩
    · exact p.elim
  · exact p.elim
theorem op_modM : OpR X (binaryOp .Mod) (r2 X.K oMod) := by
  intro pins s σ H x y v u Q I rx ry ⟨μ, h, a, b, da, db, rh, p⟩
  unfold oMod at p
  split at p
  · split at p
    · rename_i hm
      exact op_mod pins s σ H x y v u Q I rx ry ⟨_, _, da, db, hm, p.fin rh rfl⟩
    · exact p.elim
  · exact p.elim
theorem op_powM : OpR X (binaryOp .Pow) (r2 X.K oPow) := by
  intro pins s σ H x y v u Q I rx ry ⟨μ, h, a, b, da, db, rh, p⟩
  unfold oPow at p
  split at p
  · split at p
    · rename_i hm
      unfold powOk at hm
      have hq := of_decide_eq_true hm
      exact op_pow pins s σ H x y v u Q I rx ry ⟨_, _, da, db, hq, p.fin rh rfl⟩
    · exact p.elim
  · exact p.elim
/-! ### comparisons -/
def oCmp (r : Int → Int → Bool) : G2
  | .int i, .int j, h => some (.bl (r i j), h)
  | _, _, _ => none
abbrev oLt : G2 := oCmp fun i j => decide (i < j)
theorem op_cmpM {op : CmpOp} {r : Int → Int → Bool} (ho : OpR X (compareOp op) (rI0 fun i j => .bl (r i j))) : OpR X (compareOp op) (r2 X.K (oCmp r)) := by
  intro pins s σ H x y v u Q I rx ry ⟨μ, h, a, b, da, db, rh, p⟩
  unfold oCmp at p
  split at p
  · exact ho pins s σ H x y v u Q I rx ry ⟨_, _, da, db, p.fin rh rfl⟩
  · exact p.elim
theorem op_ltM : OpR X (compareOp .Lt) (r2 X.K oLt) := op_cmpM op_lt
mutual
def toPy (h : Hh) : Nat → D → Option PyData
  | _, .non => some .none
  | _, .bl b => some (.bool b)
  | _, .int i => some (.int i)
  | _, .str x => some (.str x)
  | 0, _ => none
  | n + 1, .tup xs => (toPys h n xs).map .tuple
  | n + 1, .rot xs => (toPys h n xs).map .tuple
  | n + 1, .rol xs => (toPys h n xs).map .list
  | n + 1, .ref i => match h[i]? with
    | some (.lst xs) => (toPys h n xs).map .list
    | _ => none
  | _, .ex _ => none
  | _, .exf _ _ _ _ => none
termination_by n d => (n, 0)
def toPys (h : Hh) : Nat → List D → Option (List PyData)
  | _, [] => some []
  | n, d :: ds => match toPy h n d, toPys h n ds with
    | some e, some es => some (e :: es)
    | _, _ => none
termination_by n ds => (n, ds.length + 1)
end
def scalD : D → D → Option Bool
  | .int i, .int j => some (i == j)
  | .str x, .str y => some (x == y)
  | .bl a, .bl b => some (a == b)
  | .non, .non => some true
  | .non, .int _ => some false | .int _, .non => some false | .non, .bl _ => some false | .bl _, .non => some false | .non, .str _ => some false | .str _, .non => some false
  | .int _, .str _ => some false | .str _, .int _ => some false | .bl _, .str _ => some false | .str _, .bl _ => some false
  | _, _ => none
def oEqB (a b : D) (h : Hh) : Option Bool := match scalD a b with
  | some c => some c
  | none => match toPy h 64 a, toPy h 64 b with
    | some d, some e => if SeqAt.shaped d && SeqAt.shaped e then some (PyData.eqv d e) else none
    | _, _ => none
def oEq : G2 := fun a b h => (oEqB a b h).map fun c => (.bl c, h)
def oNe : G2 := fun a b h => (oEqB a b h).map fun c => (.bl (!c), h)
mutual
theorem toPy_dp {K : PySem.W.Frag} {μ : List Addr} {H : Hp} {h : Hh} (rh : RelH K μ H h) : ∀ (n : Nat) (d : D) (v : V) (e : PyData), toPy h n d = some e → Den K μ H d v → Dp K H v e
  | n, .non, _, _, e, dv => by
    unfold toPy at e; cases e; cases dv.to_non; exact .non
  | n, .bl b, _, _, e, dv => by
    unfold toPy at e; cases e; cases dv.to_bl; exact .bl b
  | n, .int b, _, _, e, dv => by
    unfold toPy at e; cases e; cases dv.to_int; exact .int b
  | n, .str b, _, _, e, dv => by
    unfold toPy at e; cases e; cases dv.to_str; exact .str b
  | 0, .tup xs, _, _, e, dv => by unfold toPy at e; cases e
  | 0, .rot xs, _, _, e, dv => by unfold toPy at e; cases e
  | 0, .rol xs, _, _, e, dv => by unfold toPy at e; cases e
  | 0, .ref xs, _, _, e, dv => by unfold toPy at e; cases e
  | 0, .ex xs, _, _, e, dv => by unfold toPy at e; cases e
  | n + 1, .ex xs, _, _, e, dv => by unfold toPy at e; cases e
  | 0, .exf .., _, _, e, dv => by unfold toPy at e; cases e
  | n + 1, .exf .., _, _, e, dv => by unfold toPy at e; cases e
  | n + 1, .tup xs, _, _, e, dv => by
    unfold toPy at e
    cases q : toPys h n xs with
    | none => rw [q] at e; cases e
    | some es =>
      rw [q] at e
      cases e
      obtain ⟨a, vs, rfl, h1, h2⟩ := dv
      exact .tup (SqT.of h1) (toPys_dp rh n xs vs es q h2)
  | n + 1, .rot xs, _, _, e, dv => by
    unfold toPy at e
    cases q : toPys h n xs with
    | none => rw [q] at e; cases e
    | some es =>
      rw [q] at e
      cases e
      obtain ⟨a, vs, rfl, h1, h2⟩ := dv
      exact .tup h1 (toPys_dp rh n xs vs es q h2)
  | n + 1, .rol xs, _, _, e, dv => by
    unfold toPy at e
    cases q : toPys h n xs with
    | none => rw [q] at e; cases e
    | some es =>
      rw [q] at e
      cases e
      obtain ⟨a, vs, rfl, h1, h2⟩ := dv
      exact .lst h1.sq (toPys_dp rh n xs vs es q h2)
  | n + 1, .ref i, _, _, e, dv => by
    unfold toPy at e
    split at e
    · rename_i xs hi
      obtain ⟨a, vs, rfl, _, h1, h2⟩ := den_lst rh dv hi
      cases q : toPys h n xs with
      | none => rw [q] at e; cases e
      | some es =>
        rw [q] at e
        cases e
        exact .lst (SqL.of h1) (toPys_dp rh n xs vs es q h2)
    · cases e
termination_by n d => (n, 0)
theorem toPys_dp {K : PySem.W.Frag} {μ : List Addr} {H : Hp} {h : Hh} (rh : RelH K μ H h) : ∀ (n : Nat) (ds : List D) (vs : List V) (es : List PyData), toPys h n ds = some es → Dens K μ H ds vs → DpAll K H vs es
  | n, [], _, _, e, dv => by
    unfold toPys at e
    cases e
    have dv : _ = [] := dv
    rw [dv]
    exact .nil
  | n, d :: ds, _, _, e, dv => by
    unfold toPys at e
    obtain ⟨v, vr, rfl, h1, h2⟩ := dv
    cases q1 : toPy h n d with
    | none => rw [q1] at e; cases e
    | some e1 =>
      cases q2 : toPys h n ds with
      | none => rw [q1, q2] at e; cases e
      | some e2 =>
        rw [q1, q2] at e
        cases e
        exact .cons (toPy_dp rh n d v e1 q1 h1) (toPys_dp rh n ds vr e2 q2 h2)
termination_by n ds => (n, ds.length + 1)
end
theorem scal_ok {K : PySem.W.Frag} {μ : List Addr} {H : Hp} {a b : D} {x y : V} {c : Bool} (e : scalD a b = some c) (da : Den K μ H a x) (db : Den K μ H b y) : scal x y = true ∧ decide (x = y) = c := by
  unfold scalD at e
  split at e <;> first
    | (cases e; cases da.to_int; cases db.to_int; refine ⟨rfl, ?_⟩; exact dec_int)
    | (cases e; cases da.to_str; cases db.to_str; refine ⟨rfl, ?_⟩; rw [Bool.eq_iff_iff]; simp)
    | (cases e; cases da.to_bl; cases db.to_bl; refine ⟨rfl, ?_⟩; rw [Bool.eq_iff_iff]; simp)
    | (cases e; cases da; cases db; exact ⟨rfl, rfl⟩)
    | cases e
theorem op_eqM (hu : X.A.units + 64 < cLine) : OpR X (compareOp .Eq) (r2 X.K oEq) := by
  intro pins s σ H x y v u Q I rx ry ⟨μ, h, a, b, da, db, rh, p⟩
  unfold oEq oEqB at p
  split at p
  · rename_i c e
    obtain ⟨h1, h2⟩ := scal_ok e da db
    exact op_eq pins s σ H x y v u Q I rx ry ⟨h1, by rw [h2]; exact p.fin rh rfl⟩
  · split at p
    · rename_i d e ed ee
      split at p
      · rename_i hs
        obtain ⟨s1, s2⟩ := Bool.and_eq_true_iff.mp hs
        exact op_eqD hu pins s σ H x y v u Q I rx ry ⟨d, e, toPy_dp rh _ _ _ _ ed da, toPy_dp rh _ _ _ _ ee db, s1, s2, p.fin rh rfl⟩
      · exact p.elim
    · exact p.elim
theorem op_neM (hu : X.A.units + 64 < cLine) : OpR X (compareOp .NotEq) (r2 X.K oNe) := by
  intro pins s σ H x y v u Q I rx ry ⟨μ, h, a, b, da, db, rh, p⟩
  unfold oNe oEqB at p
  split at p
  · rename_i c e
    obtain ⟨h1, h2⟩ := scal_ok e da db
    exact op_ne pins s σ H x y v u Q I rx ry ⟨h1, by rw [h2]; exact p.fin rh rfl⟩
  · split at p
    · rename_i d e ed ee
      split at p
      · rename_i hs
        obtain ⟨s1, s2⟩ := Bool.and_eq_true_iff.mp hs
        exact op_neD hu pins s σ H x y v u Q I rx ry ⟨d, e, toPy_dp rh _ _ _ _ ed da, toPy_dp rh _ _ _ _ ee db, s1, s2, p.fin rh rfl⟩
      · exact p.elim
    · exact p.elim
def isNon : D → Bool
  | .non => true
  | _ => false
theorem isNon_ok {K : PySem.W.Frag} {μ : List Addr} {H : Hp} {a : D} {x : V} (d : Den K μ H a x) : decide (x = .non) = isNon a := by
  cases a with
  | non => cases d.to_non; rfl
  | bl b => cases d.to_bl; rfl
  | int b => cases d.to_int; rfl
  | str b => cases d.to_str; rfl
  | tup b => obtain ⟨_, _, rfl, _⟩ := d; rfl
  | rot b => obtain ⟨_, _, rfl, _⟩ := d; rfl
  | rol b => obtain ⟨_, _, rfl, _⟩ := d; rfl
  | ref b => obtain ⟨_, rfl, _⟩ := d; rfl
  | ex b => have d : x = .ref b := d; subst d; rfl
  | exf a _ _ _ => obtain ⟨rfl, _⟩ := d; rfl
/-- a is None -/
def oIsN : G2
  | a, .non, h => some (.bl (isNon a), h)
  | _, _, _ => none
theorem op_isM : OpR X (compareOp .Is) (r2 X.K oIsN) := by
  intro pins s σ H x y v u Q I rx ry ⟨μ, h, a, b, da, db, rh, p⟩
  unfold oIsN at p
  split at p
  · exact op_isN pins s σ H x y v u Q I rx ry ⟨db, by rw [isNon_ok da]; exact p.fin rh rfl⟩
  · exact p.elim
/-! ### subscripts -/
def oIx : G2
  | .tup xs, .int i, h => (atI xs i).map fun d => (d, h)
  | .rot xs, .int i, h => (atI xs i).map fun d => (d, h)
  | .rol xs, .int i, h => (atI xs i).map fun d => (d, h)
  | .str z, .int i, h => if z.length ≤ sizeLine then (atI z.cps.toList i).map fun c => (.str ⟨#[c]⟩, h) else none
  | .ref a, .int i, h => match h[a]? with
    | some (.lst xs) => (atI xs i).map fun d => (d, h)
    | _ => none
  | _, _, _ => none
theorem Dens.atI {K : PySem.W.Frag} {μ : List Addr} {H : Hp} {ds : List D} {vs : List V} {i : Int} {d : D} (r : Dens K μ H ds vs) (e : L2.atI ds i = some d) : ∃ v, L2.atI vs i = some v ∧ Den K μ H d v := by
  unfold L2.atI at e ⊢
  rw [r.length]
  cases q : ixN ds.length i with
  | none => rw [q] at e; cases e
  | some j =>
    rw [q] at e
    exact r.get e
theorem ix_M : IxR X (r2 X.K oIx) := by
  intro value slice pins s σ H x y v u Q I rx ry ⟨μ, h, a, b, da, db, rh, p⟩ hs
  unfold oIx at p
  split at p
  · cases e : atI _ _ with
    | none => rw [e] at p; exact p.elim
    | some d =>
      rw [e] at p
      obtain ⟨a1, vs, rfl, q1, d1⟩ := da
      obtain ⟨w, e1, dw⟩ := d1.atI e
      exact ix_tup value slice pins s σ H _ _ v u Q I rx ry ⟨a1, vs, _, w, rfl, db, SqT.of q1, e1, p.fin rh dw⟩ hs
  · cases e : atI _ _ with
    | none => rw [e] at p; exact p.elim
    | some d =>
      rw [e] at p
      obtain ⟨a1, vs, rfl, q1, d1⟩ := da
      obtain ⟨w, e1, dw⟩ := d1.atI e
      exact ix_tup value slice pins s σ H _ _ v u Q I rx ry ⟨a1, vs, _, w, rfl, db, q1, e1, p.fin rh dw⟩ hs
  · cases e : atI _ _ with
    | none => rw [e] at p; exact p.elim
    | some d =>
      rw [e] at p
      obtain ⟨a1, vs, rfl, q1, d1⟩ := da
      obtain ⟨w, e1, dw⟩ := d1.atI e
      exact ix_list value slice pins s σ H _ _ v u Q I rx ry ⟨a1, vs, _, w, rfl, db, q1.sq, e1, p.fin rh dw⟩ hs
  · split at p
    · rename_i hl
      cases e : atI _ _ with
      | none => rw [e] at p; exact p.elim
      | some d =>
        rw [e] at p
        exact ix_str value slice pins s σ H _ _ v u Q I rx ry ⟨_, _, d, da, db, hl, e, p.fin rh rfl⟩ hs
    · exact p.elim
  · split at p
    · rename_i hi
      cases e : atI _ _ with
      | none => rw [e] at p; exact p.elim
      | some d =>
        rw [e] at p
        obtain ⟨a1, vs, rfl, _, q1, d1⟩ := den_lst rh da hi
        obtain ⟨w, e1, dw⟩ := d1.atI e
        exact ix_list value slice pins s σ H _ _ v u Q I rx ry ⟨a1, vs, _, w, rfl, db, SqL.of q1, e1, p.fin rh dw⟩ hs
    · exact p.elim
  · exact p.elim
/-- the store xs[i] = v -/
def oSet : D → D → D → Hh → Option Hh
  | .ref a, .int k, v, h => match h[a]? with
    | some (.lst xs) => (ixN xs.length k).map fun j => h.set a (.lst (xs.set j v))
    | _ => none
  | _, _, _, _ => none
def rset (K : PySem.W.Frag) (g : D → D → D → Hh → Option Hh) : TSet := fun o i v H Q => ∃ μ h a b c, Den K μ H a o ∧ Den K μ H b i ∧ Den K μ H c v ∧ RelH K μ H h ∧ match g a b c h with
  | some h' => ∀ μ' H', Step μ H μ' H' → RelH K μ' H' h' → Q H'
  | none => False
theorem put_lst {K : PySem.W.Frag} {μ : List Addr} {H : Hp} {h : Hh} {i : Nat} {a : Addr} {xs ys : List D} {vs ws : List V} (rh : RelH K μ H h) (hi : h[i]? = some (.lst xs)) (ha : μ[i]? = some a) (hv : H a = some (.lst vs)) (dw : Dens K μ H ys ws) :
    Step μ H μ (upd H a (.lst ws)) ∧ RelH K μ (upd H a (.lst ws)) (h.set i (.lst ys)) := by
  have s : Step μ H μ (upd H a (.lst ws)) := Step.set hv (fun _ z => by cases z) (fun _ _ z => by cases z) (fun _ z => by cases z)
  exact ⟨s, rh.put hi ha ⟨ws, upd_same, dw.mono s⟩⟩
theorem set_M : PSet X (rset X.K oSet) := by
  intro pins s σ H o i v ov iv u Q I ro ri rv ⟨μ, h, a, b, c, da, db, dc, rh, p⟩
  unfold oSet at p
  cases a with
  | ref a1 =>
    cases b with
    | int k1 =>
      cases e1 : h[a1]? with
      | none => simp only [e1] at p
      | some ob =>
        cases ob with
        | lst xs =>
          cases e2 : ixN xs.length k1 with
          | none => simp only [e1, e2, Option.map_none] at p
          | some j =>
            simp only [e1, e2, Option.map_some] at p
            obtain ⟨a2, vs, rfl, ha, hv, d1⟩ := den_lst rh da e1
            obtain ⟨st, r⟩ := put_lst rh e1 ha hv (Dens.set dc j d1)
            exact set_list pins s σ H _ _ _ ov iv u Q I ro ri rv ⟨a2, vs, k1, j, rfl, db, hv, by rw [d1.length]; exact e2, p _ _ st r⟩
        | dct xs => simp only [e1] at p
        | dctT xs => simp only [e1] at p
        | dlk xs => simp only [e1] at p
        | dlkT xs => simp only [e1] at p
        | obj C xs => simp only [e1] at p
        | set P w xs => simp only [e1] at p
        | exo c C xs => simp only [e1] at p
    | _ => exact p.elim
  | _ => exact p.elim
end
end PI
/-! Built-in functions, methods, iterators. -/
namespace PI
open PySem PySem.Spec L2
open PyProof.Rows hiding St

/-! ### the type of a thing -/
def tyD (h : Hh) : D → Option String
  | .non => some "NoneType"
  | .bl _ => some "bool"
  | .int _ => some "int"
  | .str _ => some "str"
  | .tup _ => some "tuple"
  | .rot _ => some "tuple"
  | .rol _ => some "list"
  | .ref i => match h[i]? with
    | some (.lst _) => some "list"
    | some (.dct _) => some "dict"
    | some (.dctT _) => some "dict"
    | _ => none
  | .ex _ => none
  | .exf _ _ _ _ => none
theorem tyD_ok {K : PySem.W.Frag} {μ : List Addr} {H : Hp} {h : Hh} (rh : RelH K μ H h) : ∀ {d : D} {v : V} {t : String}, tyD h d = some t → Den K μ H d v → TyX K H v (.type t)
  | .non, _, _, e, dv => by cases e; cases dv.to_non; exact .base .non
  | .bl b, _, _, e, dv => by cases e; cases dv.to_bl; exact .base (.bl b)
  | .int b, _, _, e, dv => by cases e; cases dv.to_int; exact .base (.int b)
  | .str b, _, _, e, dv => by cases e; cases dv.to_str; exact .base (.str b)
  | .tup xs, _, _, e, dv => by
    cases e
    obtain ⟨a, vs, rfl, q, _⟩ := dv
    exact .base (.tup q)
  | .rot xs, _, _, e, dv => by
    cases e
    obtain ⟨a, vs, rfl, q, _⟩ := dv
    rcases q with (q | ⟨o, q⟩) | ⟨o, its, n, q1, q2, _⟩
    · exact .base (.tup q)
    · exact .fTuple q
    · exact .kTuple q1 q2
  | .rol xs, _, _, e, dv => by
    cases e
    obtain ⟨a, vs, rfl, q, _⟩ := dv
    rcases q with ⟨o, q⟩ | ⟨o, its, n, q1, q2, _⟩
    · exact .base (.frz q)
    · exact .kList q1 q2
  | .ref i, _, _, e, dv => by
    have e : (match h[i]? with
      | some (.lst _) => some "list"
      | some (.dct _) => some "dict"
      | some (.dctT _) => some "dict"
      | _ => none) = some _ := e
    obtain ⟨a, rfl, ha⟩ := dv
    split at e
    · rename_i xs hi
      cases e
      obtain ⟨b, hb, vs, hv, _⟩ := rh.obj i _ hi
      rw [ha] at hb; cases hb
      exact .base (.lst hv)
    · rename_i xs hi
      cases e
      obtain ⟨b, hb, vs, hv, _⟩ := rh.obj i _ hi
      rw [ha] at hb; cases hb
      exact .base (.dK hv)
    · rename_i xs hi
      cases e
      obtain ⟨b, hb, vs, hv, _⟩ := rh.obj i _ hi
      rw [ha] at hb; cases hb
      exact .base (.dT hv)
    · cases e
  | .ex _, _, _, e, _ => by cases e
  | .exf .., _, _, e, _ => by cases e
def subT (t T : String) : Bool := t == T || (t == "bool" && T == "int")
theorem subT_ok {K : PySem.W.Frag} {t T : String} (ht : t ∈ ["NoneType", "bool", "int", "str", "tuple", "list", "dict"]) (hT : T ∈ ["int", "bool", "str", "tuple", "list", "dict"]) : PySem.W.kitOne K (.type t) (.type T) = some (subT t T) := by
  simp only [List.mem_cons, List.not_mem_nil, or_false] at ht hT
  rcases ht with rfl | rfl | rfl | rfl | rfl | rfl | rfl <;> rcases hT with rfl | rfl | rfl | rfl | rfl | rfl <;> exact kit_ty (by decide +kernel)
theorem tyD_mem {h : Hh} {d : D} {t : String} (e : tyD h d = some t) : t ∈ ["NoneType", "bool", "int", "str", "tuple", "list", "dict"] := by
  unfold tyD at e
  repeat' split at e
  all_goals first | (cases e; simp) | cases e
/-- isinstance(x, T) -/
def mIsi (T : String) (m : ME) : ME := fun ρ h => (m ρ h).bind fun d h1 => match tyD h1 d with
  | some t => .ok (.bl (subT t T)) h1
  | none => .bad
section
variable {X : Cx} {ct : Ctb} {W : WX}
theorem se_isi {e : Expr} {T : String} {x : Str} {p p2 pos : Pos} {m : ME} (hT : T ∈ ["int", "bool", "str", "tuple", "list", "dict"]) (hg : Gl X "isinstance") (hm : X.mg "isinstance" = none) (hgx : Gl X x) (hmx : X.mg x = none) (hv : bootBuiltins x = some (.type T)) (ha : SE X ct W e m) (hnx : x ≠ "__name__" := by decide) (hdx : (x == ("__debug__" : Str)) = false := by decide)
    (hs2 : starEach [.Name x p2] X.env = (false, eval (.Name x p2) X.env) :: starEach [] X.env := by rfl) (he : starEach [e, .Name x p2] X.env = (false, eval e X.env) :: starEach [.Name x p2] X.env := by rfl) (hpl : (backTo pos (starEach [.Name x p2] X.env)).any (·.1) = false := by rfl) :
    SE X ct W (.Call (.Name "isinstance" p) [e, .Name x p2] [] pos) (mIsi T m) :=
  (pe_callB call_isi hg hm PyProof.Rows.boot_isinstance (pa_cons ha (pa_cons (pe_bltn (v := .ty T) hgx hmx hv rfl hnx hdx) pa_nil hs2) he) (by decide) (by decide) he hpl).imp fun σ H Q ⟨μ, ρ, h, rs, rh, po⟩ => rdE.go rs rh po fun d h1 μ1 H1 v s1 rs1 rh1 dv p1 => by
    split at p1
    · rename_i t et
      exact ⟨v, .ty T, .type t, .type T, subT t T, rfl, .ty T, tyD_ok rh1 et dv, subT_ok (tyD_mem et) hT, p1.at rh1 _ rfl⟩
    · exact p1.elim
end

/-! ### built-ins by values -/
def lenD (h : Hh) : D → Option Nat
  | .str x => if x.length ≤ sizeLine then some x.length else none
  | .tup xs => some xs.length
  | .rot xs => some xs.length
  | .rol xs => some xs.length
  | .ref i => match h[i]? with
    | some (.lst xs) => some xs.length
    | _ => none
  | _ => none
def bLen : GN
  | [d], h => match lenD h d with
    | some n => some (.int (n : Int), h)
    | none => none
  | _, _ => none
def bAbs : GN
  | [.int i], h => some (.int (if i < 0 then -i else i), h)
  | _, _ => none
def bInt : GN
  | [.int i], h => some (.int i, h)
  | [.bl b], h => some (.int (if b then 1 else 0), h)
  | _, _ => none
/-- list(x) -/
def bList : GN
  | [.tup xs], h => some (.ref h.length, h ++ [.lst xs])
  | [.rot xs], h => some (.ref h.length, h ++ [.lst xs])
  | [.rol xs], h => some (.ref h.length, h ++ [.lst xs])
  | [.ref i], h => match h[i]? with
    | some (.lst xs) => some (.ref h.length, h ++ [.lst xs])
    | _ => none
  | _, _ => none
theorem dens1 {K : PySem.W.Frag} {μ : List Addr} {H : Hp} {d : D} {vs : List V} (h : Dens K μ H [d] vs) : ∃ v, vs = [v] ∧ Den K μ H d v := by
  obtain ⟨v, vr, e, q, r⟩ := h
  have r : vr = [] := r
  subst r
  exact ⟨v, e, q⟩
section
variable {X : Cx}
theorem cr_len : CallR X (.builtin "len") (rN X.K bLen) := by
  intro pins s σ H xs us Q I r ⟨μ, h, as, da, rh, p⟩
  unfold bLen at p
  split at p
  · split at p
    · rename_i d n e
      obtain ⟨v, rfl, dv⟩ := dens1 da
      refine call_len pins s σ H _ us Q I r ⟨v, n, rfl, ?_, p.fin rh rfl⟩
      unfold lenD at e
      split at e
      · split at e
        · rename_i hl
          cases e
          cases dv.to_str
          exact ⟨hl, rfl⟩
        · cases e
      · cases e
        obtain ⟨a, vs, rfl, q, dd⟩ := dv
        exact .inr ⟨vs, SqT.of q, by rw [dd.length]⟩
      · cases e
        obtain ⟨a, vs, rfl, q, dd⟩ := dv
        exact .inr ⟨vs, q, by rw [dd.length]⟩
      · cases e
        obtain ⟨a, vs, rfl, q, dd⟩ := dv
        exact .inl ⟨vs, q.sq, by rw [dd.length]⟩
      · split at e
        · rename_i hi
          cases e
          obtain ⟨a, vs, rfl, _, q, dd⟩ := den_lst rh dv hi
          exact .inl ⟨vs, SqL.of q, by rw [dd.length]⟩
        · cases e
      · cases e
    · exact p.elim
  · exact p.elim
theorem cr_abs : CallR X (.builtin "abs") (rN X.K bAbs) := by
  intro pins s σ H xs us Q I r ⟨μ, h, as, da, rh, p⟩
  unfold bAbs at p
  split at p
  · obtain ⟨v, rfl, dv⟩ := dens1 da
    cases dv.to_int
    exact call_abs pins s σ H _ us Q I r ⟨_, rfl, p.fin rh rfl⟩
  · exact p.elim
theorem cr_int : CallR X (.type "int") (rN X.K bInt) := by
  intro pins s σ H xs us Q I r ⟨μ, h, as, da, rh, p⟩
  unfold bInt at p
  split at p
  · obtain ⟨v, rfl, dv⟩ := dens1 da
    cases dv.to_int
    exact call_int1 pins s σ H _ us Q I r (.inl ⟨_, rfl, p.fin rh rfl⟩)
  · obtain ⟨v, rfl, dv⟩ := dens1 da
    cases dv.to_bl
    exact call_int1 pins s σ H _ us Q I r (.inr ⟨_, rfl, p.fin rh rfl⟩)
  · exact p.elim
theorem cr_list : CallR X (.type "list") (rN X.K bList) := by
  intro pins s σ H xs us Q I r ⟨μ, h, as, da, rh, p⟩
  unfold bList at p
  split at p
  · obtain ⟨v, rfl, a, vs, rfl, q, dd⟩ := dens1 da
    exact call_list_of pins s σ H _ us Q I r ⟨a, vs, rfl, .inr (SqT.of q), fun l hl => p.finL rh dd l hl⟩
  · obtain ⟨v, rfl, a, vs, rfl, q, dd⟩ := dens1 da
    exact call_list_of pins s σ H _ us Q I r ⟨a, vs, rfl, .inr q, fun l hl => p.finL rh dd l hl⟩
  · obtain ⟨v, rfl, a, vs, rfl, q, dd⟩ := dens1 da
    exact call_list_of pins s σ H _ us Q I r ⟨a, vs, rfl, .inl q.sq, fun l hl => p.finL rh dd l hl⟩
  · split at p
    · rename_i hi
      obtain ⟨v, rfl, dv⟩ := dens1 da
      obtain ⟨a, vs, rfl, _, q, dd⟩ := den_lst rh dv hi
      exact call_list_of pins s σ H _ us Q I r ⟨a, vs, rfl, .inl (SqL.of q), fun l hl => p.finL rh dd l hl⟩
    · exact p.elim
  · exact p.elim
end

/-! ### list.append, and items changed by an operator -/
def mMset (g : D → List D → Hh → Option (D × Hh)) (mo : ME) (ma : MA) : ME := fun ρ h => (mo ρ h).bind fun o h1 => match o with
  | .ref i => match h1[i]? with
    | some (.lst _) => (ma ρ h1).bind fun as h2 => Out.ofO (g o as h2)
    | _ => .bad
  | _ => .bad
def lAppend : D → List D → Hh → Option (D × Hh)
  | .ref i, [d], h => match h[i]? with
    | some (.lst xs) => if xs.length < sizeLine then some (.non, h.set i (.lst (xs ++ [d]))) else none
    | _ => none
  | _, _, _ => none
section
variable {X : Cx} {ct : Ctb} {W : WX}
def rM (K : PySem.W.Frag) (g : D → List D → Hh → Option (D × Hh)) : V → List V → Hp → VK → Prop := fun x xs H Q => ∃ μ h a as, Den K μ H a x ∧ Dens K μ H as xs ∧ RelH K μ H h ∧ POo K μ H (fun d _ μ' H' => ∀ v, Den K μ' H' d v → Q v H') (g a as h)
theorem mt_appendM : MtM X "list.append" (rM X.K lAppend) := by
  intro pins s σ H x xs v us Q I rx rv ⟨μ, h, a, as, da, das, rh, p⟩
  unfold lAppend at p
  split at p
  · split at p
    · rename_i hi
      split at p
      · rename_i hl
        obtain ⟨b, vs, rfl, ha, hv, dd⟩ := den_lst rh da hi
        obtain ⟨w, rfl, dw⟩ := dens1 das
        obtain ⟨st, r⟩ := put_lst rh hi ha hv (dd.append das)
        exact mt_append pins s σ H _ _ v us Q I rx rv ⟨b, vs, w, rfl, rfl, hv, by rw [dd.length]; exact hl, p _ _ st r _ rfl⟩
      · exact p.elim
    · exact p.elim
  · exact p.elim
/-- a method of a list -/
theorem se_lm {o e : Expr} {es : List Expr} {name : Str} {id : String} {apos cpos : Pos} {g : D → List D → Hh → Option (D × Hh)} {mo : ME} {ma : MA} (slot : Slot "list" name id) (hty : typeOf (.builtin id) = pure (.type "method_descriptor")) (hm : MtR X id (rM X.K g)) (ho : SE X ct W o mo) (ha : SA X ct W (e :: es) ma)
    (hbase : attributeBase o name X.env (eval o X.env) = eval o X.env := by rfl)
    (hfew : ((backTo cpos (starEach (e :: es) X.env)).all (fun x => !x.1) && (backToKw cpos (keywordEach [] X.env)).all (fun x => x.1.isSome) && decide ((e :: es).length + ([] : List Keyword).length + (if ([] : List Keyword).isEmpty then 0 else 1) < 30)) = true := by rfl)
    (he : starEach (e :: es) X.env = (false, eval e X.env) :: starEach es X.env := by rfl) (hpl : (backTo cpos (starEach es X.env)).any (·.1) = false := by rfl) (hline : (apos.endLine == cpos.line) = true := by rfl) :
    SE X ct W (.Call (.Attribute o name apos) (e :: es) [] cpos) (mMset g mo ma) := by
  refine L2.PE.imp (pe_bm PySem.F.plainAttrs_list slot hty hm ho ha hbase hfew hline he hpl) fun σ H Q ⟨μ, ρ, h, rs, rh, p⟩ => rdE.go rs rh p fun d h1 μ1 H1 v s1 rs1 rh1 dv p1 => ?_
  split at p1
  · rename_i i
    split at p1
    · rename_i xs hi
      obtain ⟨a, vs, rfl, ha, hv, dd⟩ := den_lst rh1 dv hi
      exact ⟨.inl ⟨rfl, vs, SqL.of hv⟩, rdA.go rs1 rh1 p1 fun as h2 μ2 H2 ws s2 rs2 rh2 das p2 => ⟨μ2, h2, .ref i, as, dv.mono s2, das, rh2, p2.ofO⟩⟩
    · exact p1.elim
  · exact p1.elim
/-- o[i] = e -/
def gmSub (g : D → D → D → Hh → Option Hh) (mo mi : ME) : MG := fun d ρ h => match mo ρ h with
  | .ok o h1 => match mi ρ h1 with
    | .ok i h2 => (g o i d h2).map fun h3 => (ρ, h3)
    | _ => none
  | _ => none
theorem sg_sub {o i : Expr} {mo mi : ME} {pos : Pos} {g : D → D → D → Hh → Option Hh} (ho : SE X ct W o mo) (hi : SE X ct W i mi) (hs : PSet X (rset X.K g))
    (ha : ∀ v, assign (.Subscript o i pos) X.env v = (do
      let ov ← holding [v] (eval o X.env)
      let iv ← holding [v, ov] (eval i X.env)
      standAt pos
      holding [v, ov, iv] (setItem ov iv v)
      release [v, ov, iv] []) := by intro _; rfl) : SG X (.Subscript o i pos) (gmSub g mo mi) :=
  (pg_sub ho hi hs ha).imp fun v σ H Q ⟨μ, ρ, h, d, rs, rh, dv, p⟩ => by
    cases e1 : mo ρ h with
    | ok od h1 =>
      cases e2 : mi ρ h1 with
      | ok idd h2 =>
        cases e3 : g od idd d h2 with
        | some h3 =>
          have hg : gmSub g mo mi d ρ h = some (ρ, h3) := by unfold gmSub; simp only [e1, e2, e3, Option.map_some]
          rw [hg] at p
          refine ⟨μ, ρ, h, rs, rh, ?_⟩
          rw [e1]
          intro μ1 H1 s1 rh1 x dx
          refine ⟨μ1, ρ, h1, rs.mono s1, rh1, ?_⟩
          rw [e2]
          intro μ2 H2 s2 rh2 y dy
          refine ⟨μ2, h2, od, idd, d, dx.mono s2, dy, (dv.mono s1).mono s2, rh2, ?_⟩
          rw [e3]
          intro μ3 H3 s3 rh3
          exact p μ3 H3 σ ((s1.trans s2).trans s3) rh3 (((rs.mono s1).mono s2).mono s3)
        | none =>
          have hg : gmSub g mo mi d ρ h = none := by unfold gmSub; simp only [e1, e2, e3, Option.map_none]
          rw [hg] at p
          exact p.elim
      | err x h2 =>
        have hg : gmSub g mo mi d ρ h = none := by unfold gmSub; simp only [e1, e2]
        rw [hg] at p
        exact p.elim
      | bad =>
        have hg : gmSub g mo mi d ρ h = none := by unfold gmSub; simp only [e1, e2]
        rw [hg] at p
        exact p.elim
    | err x h2 =>
      have hg : gmSub g mo mi d ρ h = none := by unfold gmSub; simp only [e1]
      rw [hg] at p
      exact p.elim
    | bad =>
      have hg : gmSub g mo mi d ρ h = none := by unfold gmSub; simp only [e1]
      rw [hg] at p
      exact p.elim
end

/-! ### iterators -/
section
variable {X : Cx} {ct : Ctb} {W : WX} {tg : Expr}
def jRng (lo : Int) (n : Nat) : MIt := ⟨fun i _ => some (if i < n then some (.int (lo + i)) else none), n⟩
theorem itr_rng {K : PySem.W.Frag} {μ : List Addr} {H : Hp} {lo : Int} {n : Nat} : ItR K μ H (Itr lo n) (jRng lo n) where
  stop := fun i μ' H' h' s rh e => by
    have e : (if i < n then some (D.int (lo + i)) else none) = none := Option.some.inj e
    split at e
    · cases e
    · rename_i h
      exact Nat.le_of_not_lt h
  go := fun i μ' H' h' x s rh e => by
    have e : (if i < n then some (D.int (lo + i)) else none) = some x := Option.some.inj e
    split at e
    · rename_i h
      cases e
      refine ⟨h, fun y H'' hy => ?_⟩
      obtain ⟨rfl, rfl⟩ := hy
      exact ⟨Step.refl, rh, rfl⟩
    · cases e
def miRng1 (m : ME) : MI := fun ρ h => (m ρ h).bind fun d h1 => match d with
  | .int n => if -(2 ^ 62) ≤ n ∧ n < 2 ^ 62 then .ok (jRng 0 n.toNat) h1 else .bad
  | _ => .bad
theorem si_rng1 {a : Expr} {m : ME} {p pos : Pos} (hg : Gl X "range") (hm : X.mg "range" = none) (ha : SE X ct W a m) (hs : starEach [a] X.env = [(false, eval a X.env)] := by rfl) :
    L2.PI X tg (.Call (.Name "range" p) [a] [] pos) (rdI X.K ct W (miRng1 m)) :=
  (pi_range1 hg hm (pa_cons ha pa_nil hs) hs).imp fun σ H R ⟨μ, ρ, h, rs, rh, p⟩ => rdE.go rs rh p fun d h1 μ1 H1 v s1 rs1 rh1 dv p1 => by
    split at p1
    · split at p1
      · rename_i hn
        cases dv.to_int
        exact ⟨_, rfl, hn.1, hn.2, p1.at rh1 _ itr_rng⟩
      · exact p1.elim
    · exact p1.elim
end
end PI
/-! try with several clauses, with or without a name. -/
namespace PI
open PySem PySem.Spec L2
open PyProof.Rows hiding St

section
variable {X : Cx} {ct : Ctb} {W : WX}
end
end PI
/-! The end: what the top has written, the law's own promise. -/
namespace PI
open PySem PySem.Spec L2
open PyProof.Rows hiding St

/-- a def as the top has written it -/
structure DefI (K : PySem.W.Frag) (mg : Str → Option Value) (x : Str) (st : Stmt) (ps : List Str) (kws : List (List Str × List Nat)) : Prop where
  ex : ∃ fa fd, Fun K x x st fa fd ∧ mg x = some (.ref fa) ∧ Binds K fd ps [] ∧ ∀ p ∈ kws, KwB fd ps p.1 p.2
theorem defI_mk {K : PySem.W.Frag} {h : Heap} {mg : Str → Option Value} {x : Str} {st : Stmt} {ps : List Str} {kws : List (List Str × List Nat)} {f : Addr} {oc : Value} {od an : Option Addr} {osl : Array (Option Value)} {kV doc pm cdv ct : Value} (X : K.In h) (G : h.Ns mainGlobals mg)
    (a : PySem.W.nsIn K mainGlobals x = some (some (.ref f))) (l : K.lookup f = some ⟨oc, od, .func (PySem.W.fnOf x x (defArgs st) (defBody st) (defScope st) .none kV doc pm an cdv ct), osl⟩)
    (c : PySem.W.codeIn K cdv x = true) (k : PySem.W.keepIn K (.ref f) = true)
    (hb : ∀ (kV doc pm : Value) (an : Option Addr) (cdv ct : Value) (us : List Value), us.length = ps.length → bindArgs (PySem.W.fnOf x x (defArgs st) (defBody st) (defScope st) .none kV doc pm an cdv ct) ⟨us, []⟩ = pure (ps.zip us))
    (hk : ∀ (kV doc pm : Value) (an : Option Addr) (cdv ct : Value), ∀ p ∈ kws, KwB (PySem.W.fnOf x x (defArgs st) (defBody st) (defScope st) .none kV doc pm an cdv ct) ps p.1 p.2) : DefI K mg x st ps kws := by
  have F := fun_mk (st := st) l c k
  exact ⟨f, _, F, PySem.W.mg_of X G a, F.binds hb, hk _ _ _ _ _ _⟩
section
variable {P : Program} {w : World} {K : PySem.W.Frag} {mg : Str → Option Value} {base : Heap} {ct : Ctb}
theorem FnI.mono {j k : Nat} {x : Str} {ps : List Str} {f : FnM} (F : FnI P w K mg base ct j x ps f) (h : j ≤ k) : FnI P w K mg base ct k x ps f := by
  obtain ⟨fa, fd, a, b, c, d⟩ := F.ex
  exact ⟨fa, fd, a, b, c, d.mono h⟩
/-- a def's mirror, from its body's -/
theorem DefI.fn {k : Nat} {x : Str} {st : Stmt} {ps : List Str} {kws : List (List Str × List Nat)} {f : FnM} (D : DefI K mg x st ps kws) (h : ∀ {fa fd}, Fun K x x st fa fd → FnOk P w K mg base (L2.CX P w) k fa fd ps (spM K ct ps.length f)) : FnI P w K mg base ct k x ps f := by
  obtain ⟨fa, fd, F, m, b, _⟩ := D.ex
  exact ⟨fa, fd, m, F.kp, b, h F⟩
end
/-- what the row asks of the law -/
def spLaw (K : PySem.W.Frag) : Sp := fun vs H Q _ => ∃ (a : Addr) (ns : List Int), vs = [.ref a] ∧ Only H ∧ SqL K H a (ns.map V.int) ∧ ns.length ≤ 63 ∧ ∀ H', Q (.bl true) H'
theorem law_sp {K : PySem.W.Frag} {ct : Ctb} {f : FnM} (hf : ∀ ns : List Int, ns.length ≤ 63 → ∃ h, f [.rol (ns.map D.int)] [] = .ok (.bl true) h) (vs : List V) (H : Hp) (Q : VK) (E : XK) (q : spLaw K vs H Q E) : spM K ct 1 f vs H Q E := by
  obtain ⟨a, ns, rfl, hO, hS, hl, hq⟩ := q
  obtain ⟨h', e⟩ := hf ns hl
  have ro : RoL K H a (ns.map V.int) := by
    rcases hS with (hS | ⟨o, hS⟩) | hS
    · rcases hO a with z | ⟨o, xs, z⟩
      · rw [hS] at z; cases z
      · rw [hS] at z; cases z
    · exact .inl ⟨o, hS⟩
    · exact .inr hS
  refine ⟨[], [], [.rol (ns.map D.int)], rfl, ⟨_, _, rfl, ⟨a, _, rfl, ro, Dens.ints ns⟩, rfl⟩, ⟨rfl, fun i j a e => by simp at e, fun i o e => by simp at e⟩, ?_⟩
  rw [e]
  intro μ' H' s r v dv
  have dv : v = .bl true := dv
  rw [dv]
  exact hq H'
theorem walkM {l : PySem.W.OpenLaw} {k : Nat} {q : Program} {loose : List Str} {XP : (Str → Option Value) → Heap → Prop} {YP : World → Heap → Prop} {d : DefRec} {K : Params → PySem.W.Frag} (hn : l.most = some 63) (hdf : d.params.defaults = []) (hr : Room k callerA)
    (hY : ∀ (w : World) (h : Heap), YP w h → (K w.params).In h)
    (F : ∀ (w : World) (mg : Str → Option Value) (fa : Addr) (h : Heap), (K w.params).In h → h.Ns mainGlobals mg → mg d.name = some (.ref fa) →
      ∃ fd : FuncData, (∀ (s : Shared) (u : Value), BindsTo s fd ⟨[u], []⟩ [("script", u)]) ∧ ∀ base : Heap, (K w.params).In base → base.Ns mainGlobals mg → FnOk l.prog w (K w.params) mg base (L2.CX l.prog w) k fa fd ["script"] (spLaw (K w.params))) :
    PySem.W.WalkO q loose XP YP l.row.toRowW d [] (fun f vs => PySem.call f vs) :=
  L2.walk_of (n := 63) (k := k) (x := "script") (CX := fun w => L2.CX l.prog w) (sp := fun w => spLaw (K w.params)) hn (by decide) hdf hr hY F (fun _ _ a ns hl hO hS => ⟨a, ns, rfl, hO, hS, hl, fun _ => rfl⟩)
    fun _ _ _ _ _ z => by obtain ⟨_, _, _, _, _, _, _, _, _, _, _, _, z⟩ := z; exact z
/-- facts of own exception classes -/
theorem kit_ref {K : PySem.W.Frag} {R C : Addr} {b : Bool} (hd : PySem.W.hasDictIn K C = true) (t : PySem.W.typeIn K (.ref C) = some (.type "type")) (s : PySem.W.subIn K (.ref R) (.ref C) = some b) (e : R = C → b = true) : PySem.W.kitOne K (.ref R) (.ref C) = some b := by
  obtain ⟨cd, hc, _⟩ := PySem.W.any_some hd
  unfold PySem.W.kitOne
  split
  · rename_i h
    have : R = C := Value.ref.inj (beq_iff_eq.mp h)
    rw [e this]
  · unfold PySem.W.kitCls
    have e2 : ((PySem.W.clsIn K C).isSome && PySem.W.typeIn K (.ref C) == some (.type "type")) = true := by rw [hc, t] <;> rfl
    dsimp only
    rw [if_pos e2]
    exact s
theorem kit_tyE {K : PySem.W.Frag} {R : Addr} {T : String} {b : Bool} (m : PySem.W.kitMeta T = true) (s : PySem.W.subIn K (.ref R) (.type T) = some b) : PySem.W.kitOne K (.ref R) (.type T) = some b := by
  unfold PySem.W.kitOne
  split
  · rename_i h
    have : Value.ref R = .type T := beq_iff_eq.mp h
    cases this
  · unfold PySem.W.kitCls
    dsimp only
    rw [if_pos m]
    exact s
end PI
/-! How a mirror is reckoned: its parts as equations. -/
namespace PI
open PySem PySem.Spec L2
open PyProof.Rows hiding St
section
variable {ρ : Rho} {h : Hh} {d e : D} {a b c : ME} {s t u : MT} {x y z : MS} {m : MA} {i j : Int} {n : Nat} {g g' : G2} {k : G1} {w w' : Str}
@[simp] theorem mC_ap : mC d ρ h = .ok d h := rfl
@[simp] theorem mVar_0 : mVar 0 (some d :: ρ) h = .ok d h := rfl
@[simp] theorem mVar_s {o : Option D} : mVar (n + 1) (o :: ρ) h = mVar n ρ h := rfl
@[simp] theorem mNil_ap : mNil ρ h = .ok [] h := rfl
@[simp] theorem mCons_ap : mCons a m ρ h = (a ρ h).bind fun d h1 => (m ρ h1).bind fun ds h2 => .ok (d :: ds) h2 := rfl
@[simp] theorem mOp_ap : mOp g a b ρ h = (a ρ h).bind fun a h1 => (b ρ h1).bind fun b h2 => Out.ofO (g a b h2) := rfl
@[simp] theorem mB_ap {g : GN} : mB g m ρ h = (m ρ h).bind fun as h1 => Out.ofO (g as h1) := rfl
@[simp] theorem mTup_ap : mTup m ρ h = (m ρ h).bind fun as h1 => if as.length ≤ sizeLine then .ok (.tup as) h1 else .bad := rfl
@[simp] theorem mLst_ap : mLst m ρ h = (m ρ h).bind fun as h1 => if as.length ≤ sizeLine then .ok (.ref h1.length) (h1 ++ [.lst as]) else .bad := rfl
@[simp] theorem mTest_ap : mTest a ρ h = (a ρ h).bind fun d h1 => match d with
  | .bl b => .ok b h1
  | _ => .bad := rfl
@[simp] theorem mOr_ap : mOr s t ρ h = (s ρ h).bind fun c h1 => if c = true then .ok true h1 else t ρ h1 := rfl
@[simp] theorem mNot_ap : mNot s ρ h = (s ρ h).bind fun c h1 => .ok (!c) h1 := rfl
@[simp] theorem mAndV_ap : mAndV a b ρ h = (mTest a ρ h).bind fun c h1 => if c = true then b ρ h1 else .ok (.bl false) h1 := rfl
@[simp] theorem mIf_ap : mIf s a b ρ h = (s ρ h).bind fun c h1 => if c = true then a ρ h1 else b ρ h1 := rfl
@[simp] theorem mCall_ap {f : FnM} : mCall n f m ρ h = (m ρ h).bind fun ds h1 => if ds.length = n then f ds h1 else .bad := rfl
@[simp] theorem mIsi_ap {T : String} : mIsi T a ρ h = (a ρ h).bind fun d h1 => match tyD h1 d with
  | some t => .ok (.bl (subT t T)) h1
  | none => .bad := rfl
@[simp] theorem mMset_ap {l : D → List D → Hh → Option (D × Hh)} : mMset l a m ρ h = (a ρ h).bind fun o h1 => match o with
  | .ref i => match h1[i]? with
    | some (.lst _) => (m ρ h1).bind fun as h2 => Out.ofO (l o as h2)
    | _ => .bad
  | _ => .bad := rfl
@[simp] theorem mNx_ap : mNx ρ h = .nx ρ h := rfl
@[simp] theorem mSeq_ap : mSeq x y ρ h = (x ρ h).seq y := rfl
@[simp] theorem mRet_ap : mRet a ρ h = (a ρ h).bindS ρ fun d h1 => .rt d h1 := rfl
@[simp] theorem mDrop_ap : mDrop a ρ h = (a ρ h).bindS ρ fun _ h1 => .nx ρ h1 := rfl
@[simp] theorem mIfS_ap : mIfS s x y ρ h = (s ρ h).bindS ρ fun c h1 => if c = true then x ρ h1 else y ρ h1 := rfl
@[simp] theorem mSet_ap : mSet n a ρ h = (a ρ h).bindS ρ fun d h1 => .nx (ρ.set n (some d)) h1 := rfl
@[simp] theorem mAsg_ap {g : MG} : mAsg a g ρ h = (a ρ h).bindS ρ fun d h1 => match g d ρ h1 with
  | some (ρ', h') => .nx ρ' h'
  | none => .bad := rfl
@[simp] theorem mPar_ap {i j : Nat} : mPar i j m ρ h = (m ρ h).bindS ρ fun ds h1 => match ds with
  | [d, e] => .nx ((ρ.set i (some d)).set j (some e)) h1
  | _ => .bad := rfl
@[simp] theorem mFor_ap {mi : MI} {g : MG} : mFor mi g x ρ h = (mi ρ h).bindS ρ fun j h1 => forL j g x j.most 0 ρ h1 := rfl
@[simp] theorem gmName_ap : gmName n d ρ h = some (ρ.set n (some d), h) := rfl
@[simp] theorem gmNil_ap : gmNil [] ρ h = some (ρ, h) := rfl
@[simp] theorem gmCons_ap {p : MG} {q : MGs} {ds : List D} : gmCons p q (d :: ds) ρ h = (p d ρ h).bind fun r => q ds r.1 r.2 := rfl
@[simp] theorem gmSub_ap {gs : D → D → D → Hh → Option Hh} : gmSub gs a b d ρ h = match a ρ h with
  | .ok o h1 => match b ρ h1 with
    | .ok i h2 => (gs o i d h2).map fun h3 => (ρ, h3)
    | _ => none
  | _ => none := rfl
@[simp] theorem oAdd_int : oAdd (.int i) (.int j) h = some (.int (i + j), h) := rfl
@[simp] theorem oSub_int : oSub (.int i) (.int j) h = some (.int (i - j), h) := rfl
@[simp] theorem oMul_int : oMul (.int i) (.int j) h = if mulOk i j = true then some (.int (i * j), h) else none := rfl
@[simp] theorem oFdiv_int : oFdiv (.int i) (.int j) h = if divOk j = true then some (.int (i / j), h) else none := rfl
@[simp] theorem oMod_int : oMod (.int i) (.int j) h = if 0 < j then some (.int (i % j), h) else none := rfl
@[simp] theorem oPow_int : oPow (.int i) (.int j) h = if powOk i j = true then some (.int (i ^ j.toNat), h) else none := rfl
@[simp] theorem oCmp_int {r : Int → Int → Bool} : oCmp r (.int i) (.int j) h = some (.bl (r i j), h) := rfl
@[simp] theorem oEq_int : oEq (.int i) (.int j) h = some (.bl (i == j), h) := rfl
@[simp] theorem oNe_int : oNe (.int i) (.int j) h = some (.bl (!(i == j)), h) := rfl
@[simp] theorem oEq_str : oEq (.str w) (.str w') h = some (.bl (w == w'), h) := rfl
@[simp] theorem oNe_str : oNe (.str w) (.str w') h = some (.bl (!(w == w')), h) := rfl
@[simp] theorem oIsN_ap : oIsN d .non h = some (.bl (isNon d), h) := rfl
@[simp] theorem oIx_tup {xs : List D} : oIx (.tup xs) (.int i) h = (atI xs i).map fun d => (d, h) := rfl
@[simp] theorem oIx_rol {xs : List D} : oIx (.rol xs) (.int i) h = (atI xs i).map fun d => (d, h) := rfl
@[simp] theorem oIx_ref : oIx (.ref n) (.int i) h = match h[n]? with
  | some (.lst xs) => (atI xs i).map fun d => (d, h)
  | _ => none := rfl
@[simp] theorem oSet_ref : oSet (.ref n) (.int i) d h = match h[n]? with
  | some (.lst xs) => (ixN xs.length i).map fun j => h.set n (.lst (xs.set j d))
  | _ => none := rfl
@[simp] theorem bLen_tup {xs : List D} : bLen [.tup xs] h = some (.int xs.length, h) := rfl
@[simp] theorem bLen_rol {xs : List D} : bLen [.rol xs] h = some (.int xs.length, h) := rfl
theorem bLen_ref {xs : List D} (e : h[n]? = some (.lst xs)) : bLen [.ref n] h = some (.int xs.length, h) := by
  simp [bLen, lenD, e]
@[simp] theorem bAbs_int : bAbs [.int i] h = some (.int (if i < 0 then -i else i), h) := rfl
@[simp] theorem bInt_int : bInt [.int i] h = some (.int i, h) := rfl
@[simp] theorem bInt_bl {b : Bool} : bInt [.bl b] h = some (.int (if b then 1 else 0), h) := rfl
@[simp] theorem bList_tup {xs : List D} : bList [.tup xs] h = some (.ref h.length, h ++ [.lst xs]) := rfl
@[simp] theorem bList_rol {xs : List D} : bList [.rol xs] h = some (.ref h.length, h ++ [.lst xs]) := rfl
@[simp] theorem atI_0 {α : Type} {p : α} {xs : List α} : atI (p :: xs) 0 = some p := by simp [atI, ixN]
@[simp] theorem atI_1 {α : Type} {p q : α} {xs : List α} : atI (p :: q :: xs) 1 = some q := by
  have e : atI (p :: q :: xs) ((1 : Nat) : Int) = some q := atI_nat rfl
  exact e
@[simp] theorem atI_2 {α : Type} {p q r : α} {xs : List α} : atI (p :: q :: r :: xs) 2 = some r := by
  have e : atI (p :: q :: r :: xs) ((2 : Nat) : Int) = some r := atI_nat rfl
  exact e
@[simp] theorem atI_3 {α : Type} {p q r s : α} {xs : List α} : atI (p :: q :: r :: s :: xs) 3 = some s := by
  have e : atI (p :: q :: r :: s :: xs) ((3 : Nat) : Int) = some s := atI_nat rfl
  exact e
@[simp] theorem size_le {n : Nat} (h : n ≤ 1000) : n ≤ sizeLine := Nat.le_trans h (by decide)
end
end PI
namespace PI
open PySem PySem.Spec L2
@[simp] theorem jRng_most {lo : Int} {n : Nat} : (jRng lo n).most = n := rfl
theorem jRng_at {lo : Int} {n i : Nat} {h : Hh} (hi : i < n) : (jRng lo n).at_ i h = some (some (.int (lo + i))) := by simp [jRng, hi]
theorem jRng_end {lo : Int} {n : Nat} {h : Hh} : (jRng lo n).at_ n h = some none := by simp [jRng]
end PI
namespace PI
open PySem PySem.Spec L2
section
variable {h g : Hh} {n a b : Nat}
@[simp] theorem bLen_refM : bLen [.ref n] h = match h[n]? with
  | some (.lst xs) => some (.int xs.length, h)
  | _ => none := by
  cases e : h[n]? with
  | none => simp [bLen, lenD, e]
  | some o => cases o <;> simp [bLen, lenD, e]
@[simp] theorem bList_refM : bList [.ref n] h = match h[n]? with
  | some (.lst xs) => some (.ref h.length, h ++ [.lst xs])
  | _ => none := rfl
@[simp] theorem getApp {k : Nat} : (h ++ g)[h.length + k]? = g[k]? := by
  rw [List.getElem?_append_right (by omega)]
  congr 1
  omega
@[simp] theorem getApp0 : (h ++ g)[h.length]? = g[0]? := getApp (k := 0)
end
end PI
namespace PI
open PySem PySem.Spec L2
end PI
/-! Comprehensions. -/
namespace PI
open PySem PySem.Spec L2
open PyProof.Rows hiding St
/-! ### targets of a block's own names -/
def wipeR (ρ : Rho) : List Nat → Rho
  | [] => ρ
  | v :: vs => (wipeR ρ vs).set v none
theorem wipe_rel {K : PySem.W.Frag} {μ : List Addr} {H : Hp} {ρ : Rho} {σ : L2.St} (r : RelS K μ H ρ σ) : ∀ vs, RelS K μ H (wipeR ρ vs) (L2.wipe σ vs)
  | [] => r
  | v :: vs => (wipe_rel r vs).clear
theorem wipe_setc {σ : L2.St} {i : Nat} {x : Option V} : ∀ vs : List Nat, i ∉ vs → L2.wipe (σ.set i x) vs = (L2.wipe σ vs).set i x
  | [], _ => rfl
  | v :: vs, h => by
    unfold L2.wipe
    rw [wipe_setc vs (fun z => h (List.mem_cons_of_mem _ z)), List.set_comm _ _ (fun z => h (by rw [z]; exact List.mem_cons_self))]
theorem wipe_in {σ : L2.St} {i : Nat} {x : Option V} : ∀ vs : List Nat, i ∈ vs → L2.wipe (σ.set i x) vs = L2.wipe σ vs
  | v :: vs, h => by
    unfold L2.wipe
    by_cases hi : i ∈ vs
    · rw [wipe_in vs hi]
    · have e : i = v := by
        rcases List.mem_cons.mp h with h | h
        · exact h
        · exact absurd h hi
      rw [wipe_setc vs hi, e, List.set_set]
theorem wipe_out {σ : L2.St} : ∀ vs us : List Nat, (∀ v ∈ vs, v ∈ us) → L2.wipe (L2.wipe σ vs) us = L2.wipe σ us
  | [], us, _ => rfl
  | v :: vs, us, h => by
    show L2.wipe ((L2.wipe σ vs).set v none) us = _
    rw [wipe_in us (h v List.mem_cons_self)]
    exact wipe_out vs us fun x hx => h x (List.mem_cons_of_mem _ hx)
def rdGv (K : PySem.W.Frag) (vs : List Nat) (m : MG) : TG := fun v σ H Q => ∃ μ ρ h d, RelS K μ H ρ σ ∧ RelH K μ H h ∧ Den K μ H d v ∧ match m d ρ h with
  | some (ρ', h') => ∀ μ' H' σ', Step μ H μ' H' → RelH K μ' H' h' → RelS K μ' H' ρ' σ' → L2.wipe σ' vs = L2.wipe σ vs → Q σ' H'
  | none => False
section
variable {X : Cx} {ct : Ctb} {W : WX} {vs : List Nat}
theorem sgv_name {i : Nat} {x : Str} {pos : Pos} (hN : X.N.Nodup) (hi : X.N[i]? = some x) (hx : Loc X.env.scope x) (hv : i ∈ vs) (hf : X.fn x = true ∨ X.env.scope.names.lookup x = some .local := by first | exact .inl rfl | exact .inr rfl | assumption) : PG X (.Name x pos) (rdGv X.K vs (gmName i)) :=
  (pg_name hN hi hx hf).imp fun v σ H Q ⟨μ, ρ, h, d, rs, rh, dv, p⟩ => p μ H _ Step.refl rh (rs.set dv) (wipe_in vs hv)
end
/-! ### list comprehensions -/
def lcL (j : MIt) (g : MG) (t : MT) (e : ME) (k : Nat) (ρ : Rho) : Nat → Nat → Hh → Option Hh
  | 0, i, h => match j.at_ i h with
    | some none => some h
    | _ => none
  | n + 1, i, h => match j.at_ i h with
    | some none => some h
    | some (some d) => match g d ρ h with
      | none => none
      | some (ρ1, h1) => match t ρ1 h1 with
        | .ok true h2 => match e ρ1 h2 with
          | .ok y h3 => match h3[k]? with
            | some (.lst acc) => if acc.length < sizeLine then lcL j g t e k ρ n (i + 1) (h3.set k (.lst (acc ++ [y]))) else none
            | _ => none
          | _ => none
        | .ok false h2 => lcL j g t e k ρ n (i + 1) h2
        | _ => none
    | none => none
def mLc (m : MI) (g : MG) (t : MT) (e : ME) (vs : List Nat) : ME := fun ρ h => (m ρ h).bind fun j h1 => match lcL j g t e h1.length (wipeR ρ vs) j.most 0 (h1 ++ [.lst []]) with
  | some h2 => .ok (.ref h1.length) h2
  | none => .bad
abbrev WN : WX := fun _ _ _ _ => False
def mYes : MT := fun _ h => .ok true h
section
variable {X : Cx} {ct : Ctb} {W : WX}
abbrev STs (X : Cx) (ct : Ctb) (W : WX) (es : List Expr) (m : MT) : Prop := PTs X es (rdT X.K ct W m)
theorem _root_.L2.PTs.imp {es : List Expr} {t t' : TT} (h : PTs X es t) (i : ∀ σ H Q, t' σ H Q → t σ H Q) : PTs X es t' := ⟨fun pins s σ H Q I q => h.run pins s σ H Q I (i σ H Q q)⟩
theorem sts_nil : STs X ct W [] mYes := pts_nil.imp fun σ H Q ⟨μ, ρ, h, rs, rh, p⟩ => p.at rh
theorem sts_one {e : Expr} {m : MT} (h : ST X ct W e m) : STs X ct W [e] m := pts_one h
theorem lc_go {elt tg iter : Expr} {wi : MI} {vs : List Nat} {g : MG} {t : MT} {e : ME} {σ : L2.St} {H : Hp} {K : PySem.W.Frag} {Q : VK} (hq : rdE K ct W (mLc wi g t e vs) σ H Q) : tLc (rdI K ct W wi) (rdGv K vs g) (rdT K ct WN t) (rdE K ct WN e) vs σ H Q := by
  obtain ⟨μ, ρ, h, rs, rh, p⟩ := hq
  refine ⟨μ, ρ, h, rs, rh, (PO.bind p).mono fun j h1 μ1 H1 s1 rh1 p1 J ij D hD => ?_⟩
  have rs1 := rs.mono s1
  have st2 : Step μ1 H1 (μ1 ++ [D]) (upd H1 D (.lst [])) := Step.newT hD
  have rh2 : RelH K (μ1 ++ [D]) (upd H1 D (.lst [])) (h1 ++ [.lst []]) := rh1.push hD ⟨[], upd_same, rfl⟩
  have hk : (μ1 ++ [D])[h1.length]? = some D := by rw [← rh1.len]; simp
  generalize hk0 : h1.length = k at *
  generalize hρ : wipeR ρ vs = ρ0 at *
  have rs2 : RelS K (μ1 ++ [D]) (upd H1 D (.lst [])) ρ0 (L2.wipe σ vs) := by rw [← hρ]; exact wipe_rel (rs1.mono st2) vs
  refine ⟨fun i m H' => ∃ μ' h' hf, Step (μ1 ++ [D]) (upd H1 D (.lst [])) μ' H' ∧ RelH K μ' H' h' ∧ lcL j g t e k ρ0 m i h' = some hf ∧ ∀ μ'' H'', Step μ' H' μ'' H'' → RelH K μ'' H'' hf → Q (.ref D) H'', ⟨j.most, ?_⟩, ?_⟩
  · cases eL : lcL j g t e k ρ0 j.most 0 (h1 ++ [.lst []]) with
    | none => rw [eL] at p1; exact p1.elim
    | some hf =>
      rw [eL] at p1
      exact ⟨_, _, hf, Step.refl, rh2, eL, fun μ'' H'' s'' r'' => p1 μ'' H'' (st2.trans s'') r'' _ ⟨D, rfl, s''.get hk⟩⟩
  · rintro i m H' ⟨μ', h', hf, st', rh', eL, fin⟩
    have stop : j.at_ i h' = some none → hf = h' → (J.stop i H' ∧ Q (.ref D) H') := fun e1 e2 => ⟨ij.stop i μ' H' h' (st2.trans st') rh' e1, fin μ' H' Step.refl (e2 ▸ rh')⟩
    cases m with
    | zero =>
      unfold lcL at eL
      split at eL
      · rename_i e1
        exact .inl (stop e1 (Option.some.inj eL).symm)
      · cases eL
    | succ m =>
      unfold lcL at eL
      split at eL
      · rename_i e1
        exact .inl (stop e1 (Option.some.inj eL).symm)
      · rename_i d e1
        obtain ⟨go, yl⟩ := ij.go i μ' H' h' d (st2.trans st') rh' e1
        refine .inr ⟨go, fun H2 => ∃ μ2 h2 hf, Step (μ1 ++ [D]) (upd H1 D (.lst [])) μ2 H2 ∧ RelH K μ2 H2 h2 ∧ lcL j g t e k ρ0 m (i + 1) h2 = some hf ∧ ∀ μ'' H'', Step μ2 H2 μ'' H'' → RelH K μ'' H'' hf → Q (.ref D) H'', fun H2 w2 => ⟨m, Nat.lt_succ_self _, w2⟩, fun x H'' y => ?_⟩
        obtain ⟨st3, rh3, dx⟩ := yl x H'' y
        refine ⟨μ', ρ0, h', d, (rs2.mono st').mono st3, rh3, dx, ?_⟩
        cases eg : g d ρ0 h' with
        | none => rw [eg] at eL; cases eL
        | some z =>
          obtain ⟨ρ3, h3⟩ := z
          rw [eg] at eL
          intro μ4 H4 σ4 st4 rh4 rs4 w4
          refine ⟨w4.trans (wipe_out vs vs fun _ z => z), μ4, ρ3, h3, rs4, rh4, ?_⟩
          dsimp only at eL
          cases et : t ρ3 h3 with
          | err x h4 => rw [et] at eL; cases eL
          | bad => rw [et] at eL; cases eL
          | ok b h4 =>
            rw [et] at eL
            intro μ5 H5 st5 rh5
            cases b with
            | false =>
              simp only [Bool.false_eq_true, if_false]
              exact ⟨μ5, h4, hf, ((st'.trans st3).trans st4).trans st5, rh5, eL, fun μ'' H'' s'' => fin μ'' H'' (((st3.trans st4).trans st5).trans s'')⟩
            | true =>
              simp only [if_true]
              refine ⟨μ5, ρ3, h4, rs4.mono st5, rh5, ?_⟩
              dsimp only at eL
              cases ee : e ρ3 h4 with
              | err x h5 => rw [ee] at eL; cases eL
              | bad => rw [ee] at eL; cases eL
              | ok y h5 =>
                rw [ee] at eL
                intro μ6 H6 st6 rh6 v dv
                dsimp only at eL
                have st36 := ((st3.trans st4).trans st5).trans st6
                split at eL
                · rename_i acc hacc
                  split at eL
                  · rename_i hl
                    have hD6 : μ6[k]? = some D := (st'.trans st36).get hk
                    obtain ⟨a, ea, vacc, hv, dacc⟩ := rh6.obj k _ hacc
                    rw [hD6] at ea
                    cases ea
                    obtain ⟨sp, rp⟩ := put_lst rh6 hacc hD6 hv (dacc.append (ds := acc) (es := [y]) (ws := [v]) ⟨v, [], rfl, dv, rfl⟩)
                    exact ⟨vacc, hv, by rw [dacc.length]; exact hl, μ6, _, hf, (st'.trans st36).trans sp, rp, eL, fun μ'' H'' s'' => fin μ'' H'' ((st36.trans sp).trans s'')⟩
                  · cases eL
                · cases eL
      · cases eL
theorem se_lc {elt tg iter : Expr} {ifs : List Expr} {scope : Scope} (own : List (Str × Nat)) {pos : Pos} {wi : MI} {g : MG} {t : MT} {e : ME} (hc : X.calm = true) (hN : X.N.Nodup) (hi : L2.PI X tg iter (rdI X.K ct W wi)) (ok : BlkOk X.N X.env.scope scope own)
    (hg : ∀ (s : Shared) (H : Hp) (C : Addr) (cl : List (Str × Addr)) (fp : List Addr), PG (X.blk s H scope (compEnvC scope cl C X.env) fp) tg (rdGv X.K (own.map (·.2)) g))
    (ht : ∀ (s : Shared) (H : Hp) (C : Addr) (cl : List (Str × Addr)) (fp : List Addr), STs (X.blk s H scope (compEnvC scope cl C X.env) fp) ct WN ifs t)
    (he : ∀ (s : Shared) (H : Hp) (C : Addr) (cl : List (Str × Addr)) (fp : List Addr), SE (X.blk s H scope (compEnvC scope cl C X.env) fp) ct WN elt e) (hs : ∀ x, foldedSetIterable iter X.env x = pure x := by intro _; rfl) :
    SE X ct W (.ListComp elt [⟨tg, iter, ifs, 0⟩] scope pos) (mLc wi g t e (own.map (·.2))) :=
  L2.PE.imp (pe_lc hc hN hi ok hg ht he hs) fun σ H Q q => lc_go (elt := elt) (tg := tg) (iter := iter) q
end
end PI
/-! More walks: any sequence or text, zip, enumerate. -/
namespace PI
open PySem PySem.Spec L2
open PyProof.Rows hiding St
section
variable {K : PySem.W.Frag} {μ : List Addr} {H : Hp} {h : Hh} {a : Addr} {d : D} {v : V}
end
/-! ### texts -/
section
variable {X : Cx} {ct : Ctb} {W : WX} {tg : Expr}
end
end PI
/-! Dicts by keys, membership, slices. -/
namespace PI
open PySem PySem.Spec L2
open PyProof.Rows hiding St
/-! ### dicts: a key's value, a store -/
section
variable {κ : Type} [DecidableEq κ]
def valD (kvs : List (κ × D)) (k : κ) : Option D := (kvs.find? fun kv => decide (kv.1 = k)).map (·.2)
def putD (kvs : List (κ × D)) (k : κ) (v : D) : List (κ × D) :=
  if (kvs.any fun kv => decide (kv.1 = k)) = true then kvs.map (fun kv => if kv.1 = k then (kv.1, v) else kv) else kvs ++ [(k, v)]
variable {K : PySem.W.Frag} {μ : List Addr} {H : Hp}
def OptR (K : PySem.W.Frag) (μ : List Addr) (H : Hp) (r : Option D) (w : Option V) : Prop := match r with
  | some d => ∃ v, w = some v ∧ Den K μ H d v
  | none => w = none
/-- pairs by pairs -/
def KDen (K : PySem.W.Frag) (μ : List Addr) (H : Hp) : List (κ × D) → List (κ × V) → Prop
  | [], ws => ws = []
  | p :: r, ws => ∃ v s, ws = (p.1, v) :: s ∧ Den K μ H p.2 v ∧ KDen K μ H r s
theorem kden_of : ∀ {kvs : List (κ × D)} {ws : List (κ × V)}, ws.map (·.1) = kvs.map (·.1) → Dens K μ H (kvs.map (·.2)) (ws.map (·.2)) → KDen K μ H kvs ws
  | [], ws, e, _ => by simpa [KDen] using e
  | p :: r, [], e, _ => by simp at e
  | p :: r, (k, v) :: s, e, d => by
    simp only [List.map_cons, List.cons.injEq] at e
    obtain ⟨v', vr, e1, d1, d2⟩ := d
    simp only [List.map_cons, List.cons.injEq] at e1
    obtain ⟨rfl, rfl⟩ := e1
    obtain ⟨rfl, e2⟩ := e
    exact ⟨v, s, rfl, d1, kden_of e2 d2⟩
theorem KDen.keys : ∀ {kvs : List (κ × D)} {ws : List (κ × V)}, KDen K μ H kvs ws → ws.map (·.1) = kvs.map (·.1)
  | [], ws, h => by
    have h : ws = [] := h
    rw [h]; rfl
  | p :: r, ws, h => by
    obtain ⟨v, s, rfl, _, h⟩ := h
    simp [KDen.keys h]
theorem KDen.vals : ∀ {kvs : List (κ × D)} {ws : List (κ × V)}, KDen K μ H kvs ws → Dens K μ H (kvs.map (·.2)) (ws.map (·.2))
  | [], ws, h => by
    have h : ws = [] := h
    rw [h]; rfl
  | p :: r, ws, h => by
    obtain ⟨v, s, rfl, d, h⟩ := h
    exact ⟨v, _, rfl, d, KDen.vals h⟩
theorem KDen.length {kvs : List (κ × D)} {ws : List (κ × V)} (h : KDen K μ H kvs ws) : ws.length = kvs.length := by
  have := congrArg List.length h.keys
  simpa using this
theorem KDen.val (k : κ) : ∀ {kvs : List (κ × D)} {ws : List (κ × V)}, KDen K μ H kvs ws → OptR K μ H (valD kvs k) (valV ws k)
  | [], ws, h => by
    have h : ws = [] := h
    rw [h]; rfl
  | p :: r, ws, h => by
    obtain ⟨v, s, rfl, d, h⟩ := h
    by_cases e : p.1 = k
    · have e1 : valD (p :: r) k = some p.2 := by simp [valD, List.find?_cons, e]
      rw [e1]
      exact ⟨v, valV_pos (p := (p.1, v)) e, d⟩
    · have e1 : valD (p :: r) k = valD r k := by simp [valD, List.find?_cons, e]
      rw [e1]
      have ih := KDen.val k h
      rw [valV_neg (p := (p.1, v)) e]
      exact ih
theorem KDen.any (k : κ) : ∀ {kvs : List (κ × D)} {ws : List (κ × V)}, KDen K μ H kvs ws → (ws.any fun kv => decide (kv.1 = k)) = kvs.any fun kv => decide (kv.1 = k)
  | [], ws, h => by
    have h : ws = [] := h
    rw [h]; rfl
  | p :: r, ws, h => by
    obtain ⟨v, s, rfl, d, h⟩ := h
    simp only [List.any_cons, KDen.any k h]
theorem KDen.app : ∀ {kvs qs : List (κ × D)} {ws us : List (κ × V)}, KDen K μ H kvs ws → KDen K μ H qs us → KDen K μ H (kvs ++ qs) (ws ++ us)
  | [], _, ws, _, h, g => by
    have h : ws = [] := h
    rw [h]; exact g
  | p :: r, _, ws, _, h, g => by
    obtain ⟨v, s, rfl, d, h⟩ := h
    exact ⟨v, _, rfl, d, KDen.app h g⟩
theorem KDen.over {k : κ} {d : D} {v : V} (dv : Den K μ H d v) : ∀ {kvs : List (κ × D)} {ws : List (κ × V)}, KDen K μ H kvs ws → KDen K μ H (kvs.map fun kv => if kv.1 = k then (kv.1, d) else kv) (ws.map fun kv => if kv.1 = k then (kv.1, v) else kv)
  | [], ws, h => by
    have h : ws = [] := h
    rw [h]; rfl
  | p :: r, ws, h => by
    obtain ⟨w, s, rfl, dw, h⟩ := h
    by_cases e : p.1 = k
    · simp only [List.map_cons, if_pos e]
      exact ⟨v, _, rfl, dv, KDen.over dv h⟩
    · simp only [List.map_cons, if_neg e]
      exact ⟨w, _, rfl, dw, KDen.over dv h⟩
theorem KDen.put {k : κ} {d : D} {v : V} (dv : Den K μ H d v) {kvs : List (κ × D)} {ws : List (κ × V)} (h : KDen K μ H kvs ws) : KDen K μ H (putD kvs k d) (putK ws k v) := by
  unfold putD putK
  rw [h.any k]
  split
  · exact h.over dv
  · exact h.app ⟨v, [], rfl, dv, rfl⟩
theorem KDen.mono {μ1 : List Addr} {H1 : Hp} (s : Step μ H μ1 H1) : ∀ {kvs : List (κ × D)} {ws : List (κ × V)}, KDen K μ H kvs ws → KDen K μ1 H1 kvs ws
  | [], ws, h => h
  | p :: r, ws, h => by
    obtain ⟨w, s', rfl, dw, h⟩ := h
    exact ⟨w, s', rfl, dw.mono s, KDen.mono s h⟩
end
/-- a key as data -/
def keyD : D → Option Key
  | .int i => some (.inl i)
  | .str x => some (.inr x)
  | _ => none
def keysD : List D → Option (List Key)
  | [] => some []
  | d :: ds => match keyD d, keysD ds with
    | some k, some ks => some (k :: ks)
    | _, _ => none
section
variable {K : PySem.W.Frag} {μ : List Addr} {H : Hp} {h : Hh}
theorem keyD_ok {d : D} {v : V} {k : Key} (e : keyD d = some k) (dv : Den K μ H d v) : v = kV k := by
  unfold keyD at e
  split at e
  · cases e; cases dv.to_int; rfl
  · cases e; cases dv.to_str; rfl
  · cases e
theorem keysD_ok : ∀ {ds : List D} {vs : List V} {ks : List Key}, keysD ds = some ks → Dens K μ H ds vs → vs = ks.map kV
  | [], vs, ks, e, dd => by
    cases e
    have dd : vs = [] := dd
    rw [dd]; rfl
  | d :: ds, vs, ks, e, dd => by
    unfold keysD at e
    split at e
    · rename_i k ks' e1 e2
      cases e
      obtain ⟨v, vr, rfl, dv, dr⟩ := dd
      rw [keyD_ok e1 dv, keysD_ok e2 dr]
      rfl
    · cases e
theorem den_dct {i : Nat} {v : V} {kvs : List (Key × D)} (rh : RelH K μ H h) (dv : Den K μ H (.ref i) v) (hi : h[i]? = some (.dct kvs)) : ∃ a ws, v = .ref a ∧ μ[i]? = some a ∧ H a = some (.dK ws) ∧ KDen K μ H kvs ws := by
  obtain ⟨a, e, ha⟩ := dv
  obtain ⟨b, hb, vs, hv, e1, d⟩ := rh.obj i _ hi
  rw [ha] at hb
  cases hb
  exact ⟨a, vs, e, ha, hv, kden_of e1 d⟩
theorem den_dctT {i : Nat} {v : V} {kvs : List (List Key × D)} (rh : RelH K μ H h) (dv : Den K μ H (.ref i) v) (hi : h[i]? = some (.dctT kvs)) : ∃ a ws, v = .ref a ∧ μ[i]? = some a ∧ H a = some (.dT ws) ∧ KDen K μ H kvs ws := by
  obtain ⟨a, e, ha⟩ := dv
  obtain ⟨b, hb, vs, hv, e1, d⟩ := rh.obj i _ hi
  rw [ha] at hb
  cases hb
  exact ⟨a, vs, e, ha, hv, kden_of e1 d⟩
theorem den_dlk {i : Nat} {v : V} {kvs : List (Key × D)} (rh : RelH K μ H h) (dv : Den K μ H (.ref i) v) (hi : h[i]? = some (.dlk kvs)) : ∃ a o ws, v = .ref a ∧ μ[i]? = some a ∧ H a = some (.frz o (.dK ws)) ∧ KDen K μ H kvs ws := by
  obtain ⟨a, e, ha⟩ := dv
  obtain ⟨b, hb, o, vs, hv, e1, d⟩ := rh.obj i _ hi
  rw [ha] at hb
  cases hb
  exact ⟨a, o, vs, e, ha, hv, kden_of e1 d⟩
theorem den_dlkT {i : Nat} {v : V} {kvs : List (List Key × D)} (rh : RelH K μ H h) (dv : Den K μ H (.ref i) v) (hi : h[i]? = some (.dlkT kvs)) : ∃ a o ws, v = .ref a ∧ μ[i]? = some a ∧ H a = some (.frz o (.dT ws)) ∧ KDen K μ H kvs ws := by
  obtain ⟨a, e, ha⟩ := dv
  obtain ⟨b, hb, o, vs, hv, e1, d⟩ := rh.obj i _ hi
  rw [ha] at hb
  cases hb
  exact ⟨a, o, vs, e, ha, hv, kden_of e1 d⟩
/-- what stands at a key: none: it can't be told -/
def getD? (o k : D) (h : Hh) : Option (Option D) := match o with
  | .ref i => match h[i]? with
    | some (.dct kvs) => (keyD k).map fun k => valD kvs k
    | some (.dctT kvs) => match k with
      | .tup ds => (keysD ds).map fun k => valD kvs k
      | _ => none
    | some (.dlk kvs) => (keyD k).map fun k => valD kvs k
    | some (.dlkT kvs) => match k with
      | .tup ds => (keysD ds).map fun k => valD kvs k
      | _ => none
    | _ => none
  | _ => none
theorem getD_ok {o k : D} {x y : V} {r : Option D} (rh : RelH K μ H h) (dx : Den K μ H o x) (dy : Den K μ H k y) (e : getD? o k h = some r) : ∃ a w, x = .ref a ∧ DGet H a y w ∧ OptR K μ H r w := by
  cases o with
  | ref i =>
    cases hi : h[i]? with
    | none => simp [getD?, hi] at e
    | some ob =>
      cases ob with
      | obj C xs => simp [getD?, hi] at e
      | set P w xs => simp [getD?, hi] at e
      | exo c C xs => simp [getD?, hi] at e
      | lst xs => simp [getD?, hi] at e
      | dlk kvs =>
        obtain ⟨a, o, ws, rfl, _, ha, kd⟩ := den_dlk rh dx hi
        simp only [getD?, hi] at e
        cases ek : keyD k with
        | none => rw [ek] at e; cases e
        | some k' =>
          rw [ek] at e
          cases e
          cases keyD_ok ek dy
          exact ⟨a, valV ws k', rfl, .inl ⟨ws, k', .inr ⟨o, ha⟩, rfl, rfl⟩, kd.val k'⟩
      | dlkT kvs =>
        obtain ⟨a, o, ws, rfl, _, ha, kd⟩ := den_dlkT rh dx hi
        simp only [getD?, hi] at e
        cases k with
        | tup ds =>
          obtain ⟨b, vs, rfl, hb, dd⟩ := dy
          dsimp only at e
          cases ek : keysD ds with
          | none => rw [ek] at e; cases e
          | some k' =>
            rw [ek] at e
            cases e
            cases keysD_ok ek dd
            exact ⟨a, valV ws k', rfl, .inr ⟨ws, k', b, .inr ⟨o, ha⟩, rfl, hb, rfl⟩, kd.val k'⟩
        | _ => cases e
      | dct kvs =>
        obtain ⟨a, ws, rfl, _, ha, kd⟩ := den_dct rh dx hi
        simp only [getD?, hi] at e
        cases ek : keyD k with
        | none => rw [ek] at e; cases e
        | some k' =>
          rw [ek] at e
          cases e
          cases keyD_ok ek dy
          exact ⟨a, valV ws k', rfl, DGet.k ha, kd.val k'⟩
      | dctT kvs =>
        obtain ⟨a, ws, rfl, _, ha, kd⟩ := den_dctT rh dx hi
        simp only [getD?, hi] at e
        cases k with
        | tup ds =>
          obtain ⟨b, vs, rfl, hb, dd⟩ := dy
          dsimp only at e
          cases ek : keysD ds with
          | none => rw [ek] at e; cases e
          | some k' =>
            rw [ek] at e
            cases e
            cases keysD_ok ek dd
            exact ⟨a, valV ws k', rfl, DGet.t ha hb, kd.val k'⟩
        | _ => cases e
  | _ => simp [getD?] at e
def setD? (o k v : D) (h : Hh) : Option Hh := match o with
  | .ref i => match h[i]? with
    | some (.dct kvs) => match keyD k with
      | some k => if kvs.length < sizeLine then some (h.set i (.dct (putD kvs k v))) else none
      | none => none
    | some (.dctT kvs) => match k with
      | .tup ds => match keysD ds with
        | some k => if kvs.length < sizeLine then some (h.set i (.dctT (putD kvs k v))) else none
        | none => none
      | _ => none
    | _ => none
  | _ => none
theorem setD_ok {o k d : D} {x y v : V} {h' : Hh} (rh : RelH K μ H h) (dx : Den K μ H o x) (dy : Den K μ H k y) (dv : Den K μ H d v) (e : setD? o k d h = some h') : ∃ a H', x = .ref a ∧ DPut H a y v H' ∧ Step μ H μ H' ∧ RelH K μ H' h' := by
  cases o with
  | ref i =>
    cases hi : h[i]? with
    | none => simp [setD?, hi] at e
    | some ob =>
      cases ob with
      | lst xs => simp [setD?, hi] at e
      | dlk xs => simp [setD?, hi] at e
      | dlkT xs => simp [setD?, hi] at e
      | obj C xs => simp [setD?, hi] at e
      | set P w xs => simp [setD?, hi] at e
      | exo c C xs => simp [setD?, hi] at e
      | dct kvs =>
        obtain ⟨a, ws, rfl, ha, hw, kd⟩ := den_dct rh dx hi
        simp only [setD?, hi] at e
        cases ek : keyD k with
        | none => rw [ek] at e; cases e
        | some k' =>
          rw [ek] at e
          dsimp only at e
          split at e
          · rename_i hl
            cases e
            cases keyD_ok ek dy
            have sp : Step μ H μ (upd H a (.dK (putK ws k' v))) := Step.set hw (fun _ z => by cases z) (fun _ _ z => by cases z) (fun _ z => by cases z)
            have kp := (kd.put (k := k') dv).mono sp
            exact ⟨a, _, rfl, DPut.k hw (by rw [kd.length]; exact hl), sp, rh.put hi ha ⟨_, upd_same, kp.keys, kp.vals⟩⟩
          · cases e
      | dctT kvs =>
        obtain ⟨a, ws, rfl, ha, hw, kd⟩ := den_dctT rh dx hi
        simp only [setD?, hi] at e
        cases k with
        | tup ds =>
          obtain ⟨b, vs, rfl, hb, dd⟩ := dy
          dsimp only at e
          cases ek : keysD ds with
          | none => rw [ek] at e; cases e
          | some k' =>
            rw [ek] at e
            dsimp only at e
            split at e
            · rename_i hl
              cases e
              cases keysD_ok ek dd
              have sp : Step μ H μ (upd H a (.dT (putK ws k' v))) := Step.set hw (fun _ z => by cases z) (fun _ _ z => by cases z) (fun _ z => by cases z)
              have kp := (kd.put (k := k') dv).mono sp
              exact ⟨a, _, rfl, DPut.t hw hb (by rw [kd.length]; exact hl), sp, rh.put hi ha ⟨_, upd_same, kp.keys, kp.vals⟩⟩
            · cases e
        | _ => cases e
  | _ => simp [setD?] at e
end
section
variable {X : Cx} {ct : Ctb} {W : WX}
theorem ix_dictM (hu : X.A.units + 1 < cLine) : IxR X (fun x y H Q => ∃ a v, x = .ref a ∧ DGet H a y (some v) ∧ Q v H) := by
  rintro value slice pins s σ H x y ov iv Q I rx ry ⟨a, z, rfl, g, q⟩ hs
  obtain rfl : ov = Value.ref a := rx
  have isd := dict_typeIs I g
  unfold subscriptTail
  refine wpAny_bind ?_
  rw [getitemInPython_of_ne isd.not_modules]
  refine wpAny_bind (wpAny_specialOf isd PySem.F.slot_dict_getitem.lookup ?_)
  have last : wpAny (model X.prog X.w) X.A (subscripted slice false (.ref a) iv) (fun r s₃ => wpAny (model X.prog X.w) X.A (letTemporaryGo value (.ref a) r >>= fun _ => pure r) (EP X pins σ Q) X.xe s₃) X.xe s := by
    rw [hs]
    exact wpAny_operating (d_getItem hu I g ry fun w s1 I1 r1 => wpAny_bind (wpAny_letTemporaryGo (wpAny_pure ⟨z, H, I1, r1, q⟩)))
  first
    | exact wpAny_bind (wpAny_pure (wpAny_bind last))
    | exact wpAny_pure (wpAny_bind last)
    | exact wpAny_bind last
/-- any o[i] -/
def oGet : G2 := fun o i h => match getD? o i h with
  | some r => r.map fun d => (d, h)
  | none => oIx o i h
theorem ix_A {k : Nat} (hr : Room k X.A) : IxR X (r2 X.K oGet) := by
  intro value slice pins s σ H x y v u Q I rx ry ⟨μ, h, a, b, da, db, rh, p⟩ hs
  unfold oGet at p
  split at p
  · rename_i r e
    obtain ⟨c, w, rfl, g, q⟩ := getD_ok rh da db e
    cases r with
    | none => exact p.elim
    | some d =>
      obtain ⟨z, rfl, dz⟩ := q
      exact ix_dictM (hu_of hr) value slice pins s σ H _ _ v u Q I rx ry ⟨c, z, rfl, g, p.fin rh dz⟩ hs
  · exact ix_M value slice pins s σ H x y v u Q I rx ry ⟨μ, h, a, b, da, db, rh, p⟩ hs
/-- any o[i] = v -/
def oPut : D → D → D → Hh → Option Hh := fun o i v h => match oSet o i v h with
  | some h' => some h'
  | none => setD? o i v h
theorem set_A {k : Nat} (hr : Room k X.A) : PSet X (rset X.K oPut) := by
  intro pins s σ H o i v ov iv u Q I ro ri rv ⟨μ, h, a, b, c, da, db, dc, rh, p⟩
  unfold oPut at p
  cases e : oSet a b c h with
  | some h' => rw [e] at p; exact set_M pins s σ H o i v ov iv u Q I ro ri rv ⟨μ, h, a, b, c, da, db, dc, rh, by rw [e]; exact p⟩
  | none =>
    rw [e] at p
    have p : match setD? a b c h with
      | some h' => ∀ μ' H', Step μ H μ' H' → RelH X.K μ' H' h' → Q H'
      | none => False := p
    cases e2 : setD? a b c h with
    | none => rw [e2] at p; exact p.elim
    | some h' =>
      rw [e2] at p
      obtain ⟨d, H', rfl, g, st, r⟩ := setD_ok rh da db dc e2
      obtain rfl : ov = Value.ref d := ro
      exact d_setItem (hu_of hr) I g ri rv fun s1 I1 => ⟨H', I1, p μ H' st r⟩
end
end PI
/-! Membership, slices, list methods, built-ins over lists. -/
namespace PI
open PySem PySem.Spec L2
open PyProof.Rows hiding St
/-! ### membership -/
/-- the items of a sequence as they stand -/
def seqD (h : Hh) : D → Option (List D)
  | .tup xs => some xs
  | .rot xs => some xs
  | .rol xs => some xs
  | .ref a => match h[a]? with
    | some (.lst xs) => some xs
    | _ => none
  | _ => none
def inSeq (a b : D) (h : Hh) : Option Bool := match seqD h b with
  | some xs => match toPy h 62 a, toPys h 62 xs with
    | some d, some ds => if d.canLay0 = true ∧ d.depth ≤ 63 ∧ PyData.canLayAll0 ds = true then some (ds.any fun z => PyData.eqv z d) else none
    | _, _ => none
  | none => none
def inStr : D → D → Option Bool
  | .str x, .str z => if x.length = 1 then some (decide (x.cps.toList.headD 0 ∈ z.cps.toList)) else some (!(Builtin.Str.occurrences z x 0 z.length 1).isEmpty)
  | _, _ => none
def oInB (a b : D) (h : Hh) : Option Bool := match inStr a b with
  | some r => some r
  | none => match getD? b a h with
    | some r => some r.isSome
    | none => inSeq a b h
def oIn : G2 := fun a b h => (oInB a b h).map fun r => (.bl r, h)
def oNotIn : G2 := fun a b h => (oInB a b h).map fun r => (.bl (!r), h)
section
variable {X : Cx} {ct : Ctb} {W : WX}
theorem one_sign {x : Str} (h : x.length = 1) : x = ⟨#[x.cps.toList.headD 0]⟩ := by
  obtain ⟨⟨l⟩⟩ := x
  have h : l.length = 1 := h
  match l, h with
  | [c], _ => rfl
theorem seqD_ok {K : PySem.W.Frag} {μ : List Addr} {H : Hp} {h : Hh} {d : D} {v : V} {xs : List D} (rh : RelH K μ H h) (dv : Den K μ H d v) (e : seqD h d = some xs) : ∃ a vs, v = .ref a ∧ (SqL K H a vs ∨ SqT K H a vs) ∧ Dens K μ H xs vs := by
  cases d with
  | tup ys =>
    cases e
    obtain ⟨a, vs, rfl, q, dd⟩ := dv
    exact ⟨a, vs, rfl, .inr (SqT.of q), dd⟩
  | rot ys =>
    cases e
    obtain ⟨a, vs, rfl, q, dd⟩ := dv
    exact ⟨a, vs, rfl, .inr q, dd⟩
  | rol ys =>
    cases e
    obtain ⟨a, vs, rfl, q, dd⟩ := dv
    exact ⟨a, vs, rfl, .inl q.sq, dd⟩
  | ref i =>
    have e : (match h[i]? with | some (.lst xs) => some xs | _ => none) = some xs := e
    split at e
    · rename_i ys hi
      cases e
      obtain ⟨a, vs, rfl, _, q, dd⟩ := den_lst rh dv hi
      exact ⟨a, vs, rfl, .inl (SqL.of q), dd⟩
    · cases e
  | _ => cases e
theorem inSeq_ok {pins : List (Addr × Obj)} {s : Shared} {σ : L2.St} {H : Hp} {x y : V} {v u : Value} {Q : VK} {μ : List Addr} {h : Hh} {a b : D} {r neg : Bool} {k : Nat} (hr : Room k X.A) (I : L2.Inv X pins σ H s) (rx : RelV x v) (ry : RelV y u) (da : Den X.K μ H a x) (db : Den X.K μ H b y) (rh : RelH X.K μ H h) (e : inSeq a b h = some r)
    (q : Q (.bl (if neg then !r else r)) H) : wpAny (model X.prog X.w) X.A (compareOp (if neg then .NotIn else .In) v u) (EP X pins σ Q) X.xe s := by
  unfold inSeq at e
  split at e
  · rename_i xs exs
    split at e
    · rename_i d ds ed eds
      split at e
      · rename_i c
        obtain ⟨c1, c2, c3⟩ := c
        cases e
        obtain ⟨p, vs, rfl, sq, dd⟩ := seqD_ok rh db exs
        obtain ⟨as, r1⟩ := Dp.reads I d x v (toPy_dp rh _ _ _ _ ed da) rx
        have ha := toPys_dp rh _ _ _ _ eds dd
        have hu : X.A.units + 1 + min (PyData.depthAll ds) d.depth < cLine := by have := hr.units; omega
        rcases sq with sq | sq
        · obtain ⟨bs, r2⟩ := Dp.reads I (.list ds) _ u (.lst sq ha) ry
          cases neg
          · exact SeqAt.in_list_reads r2 r1 c3 c1 hu ⟨.bl _, H, I, rfl, q⟩
          · exact SeqAt.notIn_list_reads r2 r1 c3 c1 hu ⟨.bl _, H, I, rfl, q⟩
        · obtain ⟨bs, r2⟩ := Dp.reads I (.tuple ds) _ u (.tup sq ha) ry
          cases neg
          · exact SeqAt.in_tuple_reads r2 r1 c3 c1 hu ⟨.bl _, H, I, rfl, q⟩
          · exact SeqAt.notIn_tuple_reads r2 r1 c3 c1 hu ⟨.bl _, H, I, rfl, q⟩
      · cases e
    · cases e
  · cases e
theorem op_inA {k : Nat} (hr : Room k X.A) : OpR X (compareOp .In) (r2 X.K oIn) := by
  intro pins s σ H x y v u Q I rx ry ⟨μ, h, a, b, da, db, rh, p⟩
  unfold oIn oInB at p
  cases e1 : inStr a b with
  | some r =>
    rw [e1] at p
    unfold inStr at e1
    split at e1
    · cases da.to_str
      cases db.to_str
      split at e1
      · rename_i x z hl
        cases e1
        have sg := one_sign hl
        generalize hc : x.cps.toList.headD 0 = c at *
        subst sg
        exact op_in_sign pins s σ H _ _ v u Q I rx ry ⟨c, z, rfl, rfl, p.fin rh rfl⟩
      · cases e1
        exact op_in_str pins s σ H _ _ v u Q I rx ry ⟨_, _, rfl, rfl, p.fin rh rfl⟩
    · cases e1
  | none =>
    rw [e1] at p
    dsimp only at p
    cases e2 : getD? b a h with
    | some r =>
      rw [e2] at p
      obtain ⟨c, w, rfl, g, q⟩ := getD_ok rh db da e2
      obtain rfl : u = Value.ref c := ry
      have ew : w.isSome = r.isSome := by
        cases r with
        | none => have q : w = none := q; rw [q]; rfl
        | some d => obtain ⟨z, rfl, _⟩ := q; rfl
      exact d_in (hu_of hr) I g rx fun s1 I1 => ⟨.bl _, H, I1, rfl, p.fin rh (by rw [ew]; rfl)⟩
    | none =>
      rw [e2] at p
      dsimp only at p
      cases e3 : inSeq a b h with
      | none => rw [e3] at p; exact p.elim
      | some r =>
        rw [e3] at p
        exact inSeq_ok (neg := false) hr I rx ry da db rh e3 (p.fin rh rfl)
theorem op_notInA {k : Nat} (hr : Room k X.A) : OpR X (compareOp .NotIn) (r2 X.K oNotIn) := by
  intro pins s σ H x y v u Q I rx ry ⟨μ, h, a, b, da, db, rh, p⟩
  unfold oNotIn oInB at p
  cases e1 : inStr a b with
  | some r =>
    rw [e1] at p
    unfold inStr at e1
    split at e1
    · cases da.to_str
      cases db.to_str
      split at e1
      · rename_i x z hl
        cases e1
        have sg := one_sign hl
        generalize hc : x.cps.toList.headD 0 = c at *
        subst sg
        exact op_notIn_sign pins s σ H _ _ v u Q I rx ry ⟨c, z, rfl, rfl, p.fin rh rfl⟩
      · cases e1
        exact op_notin_str pins s σ H _ _ v u Q I rx ry ⟨_, _, rfl, rfl, p.fin rh rfl⟩
    · cases e1
  | none =>
    rw [e1] at p
    dsimp only at p
    cases e2 : getD? b a h with
    | some r =>
      rw [e2] at p
      obtain ⟨c, w, rfl, g, q⟩ := getD_ok rh db da e2
      obtain rfl : u = Value.ref c := ry
      have ew : w.isSome = r.isSome := by
        cases r with
        | none => have q : w = none := q; rw [q]; rfl
        | some d => obtain ⟨z, rfl, _⟩ := q; rfl
      exact d_notIn (hu_of hr) I g rx fun s1 I1 => ⟨.bl _, H, I1, rfl, p.fin rh (by rw [ew]; rfl)⟩
    | none =>
      rw [e2] at p
      dsimp only at p
      cases e3 : inSeq a b h with
      | none => rw [e3] at p; exact p.elim
      | some r =>
        rw [e3] at p
        exact inSeq_ok (neg := true) hr I rx ry da db rh e3 (p.fin rh rfl)
/-! ### slices -/
def cutD (xs : List D) (lo hi : Option Int) : List D := (xs.drop (HT.sIx xs.length 0 lo)).take (HT.sIx xs.length xs.length hi - HT.sIx xs.length 0 lo)
def oSl (d : D) (lo hi : Option Int) (h : Hh) : Option (D × Hh) := match d with
  | .str z => if z.length ≤ sizeLine then some (.str (cutS z lo hi), h) else none
  | .tup xs => some (.tup (cutD xs lo hi), h)
  | .rot xs => if HT.sIx xs.length 0 lo = 0 ∧ HT.sIx xs.length xs.length hi = xs.length then some (.rot xs, h) else some (.tup (cutD xs lo hi), h)
  | .rol xs => some (.ref h.length, h ++ [.lst (cutD xs lo hi)])
  | .ref a => match h[a]? with
    | some (.lst xs) => some (.ref h.length, h ++ [.lst (cutD xs lo hi)])
    | _ => none
  | _ => none
theorem Dens.cut {K : PySem.W.Frag} {μ : List Addr} {H : Hp} {xs : List D} {vs : List V} {lo hi : Option Int} (dd : Dens K μ H xs vs) : Dens K μ H (cutD xs lo hi) (cutV vs lo hi) := by
  unfold cutD cutV
  rw [dd.length]
  exact (dd.drop _).take _
def rSlM (K : PySem.W.Frag) : V → Option Int → Option Int → Hp → VK → Prop := fun x lo hi H Q => ∃ μ h a, Den K μ H a x ∧ RelH K μ H h ∧ POo K μ H (fun d _ μ' H' => ∀ v, Den K μ' H' d v → Q v H') (oSl a lo hi h)
theorem cut_all {α : Type} {xs : List α} {lo hi : Nat} (h : lo = 0 ∧ hi = xs.length) : (xs.drop lo).take (hi - lo) = xs := by
  obtain ⟨rfl, rfl⟩ := h
  simp
theorem sl_M : SlR X (rSlM X.K) := by
  intro pins s σ H x v vl vu lo hi sl Q I rx hs pl pu ⟨μ, h, a, da, rh, p⟩
  unfold oSl at p
  split at p
  · cases da.to_str
    split at p
    · rename_i hl
      exact sl_str pins s σ H _ v vl vu lo hi sl Q I rx hs pl pu ⟨_, rfl, hl, p.fin rh rfl⟩
    · exact p.elim
  · rename_i xs
    obtain ⟨c, vs, rfl, q, dd⟩ := da
    refine sl_tupA pins s σ H _ v vl vu lo hi sl Q I rx hs pl pu ⟨c, vs, rfl, SqT.of q, fun e => ?_, fun _ pp hp => p.finT rh dd.cut pp hp⟩
    have ec : cutD xs lo hi = xs := by
      unfold cutD
      rw [dd.length] at e
      exact cut_all e
    rw [ec] at p
    exact p.fin rh ⟨c, vs, rfl, q, dd⟩
  · rename_i xs
    obtain ⟨c, vs, rfl, q, dd⟩ := da
    refine sl_tupA pins s σ H _ v vl vu lo hi sl Q I rx hs pl pu ⟨c, vs, rfl, q, fun e => ?_, fun e pp hp => ?_⟩
    · rw [dd.length] at e
      rw [if_pos e] at p
      exact p.fin rh ⟨c, vs, rfl, q, dd⟩
    · rw [dd.length] at e
      rw [if_neg e] at p
      exact p.finT rh dd.cut pp hp
  · obtain ⟨c, vs, rfl, q, dd⟩ := da
    exact sl_list pins s σ H _ v vl vu lo hi sl Q I rx hs pl pu ⟨c, vs, rfl, q.sq, fun pp hp => p.finL rh dd.cut pp hp⟩
  · split at p
    · rename_i hi'
      obtain ⟨c, vs, rfl, _, q, dd⟩ := den_lst rh da hi'
      exact sl_list pins s σ H _ v vl vu lo hi sl Q I rx hs pl pu ⟨c, vs, rfl, SqL.of q, fun pp hp => p.finL rh dd.cut pp hp⟩
    · exact p.elim
  · exact p.elim
/-- a bound, or none -/
abbrev MO := Rho → Hh → Out (Option Int)
def moN : MO := fun _ h => .ok none h
def moS (m : ME) : MO := fun ρ h => (m ρ h).bind fun d h1 => match d with
  | .int i => .ok (some i) h1
  | _ => .bad
def rdO (K : PySem.W.Frag) (ct : Ctb) (W : WX) (m : MO) : TO := fun σ H Q => ∃ μ ρ h, RelS K μ H ρ σ ∧ RelH K μ H h ∧ PO K ct W σ μ H (fun o _ μ' H' => Q o H') (m ρ h)
theorem so_none : L2.PO X none (rdO X.K ct W moN) := by
  constructor
  intro pins s σ H Q I ⟨μ, ρ, h, rs, rh, p⟩
  exact po_none.run pins s σ H Q I (p.at rh)
theorem so_some {e : Expr} {m : ME} (he : SE X ct W e m) : L2.PO X (some e) (rdO X.K ct W (moS m)) := by
  constructor
  intro pins s σ H Q I ⟨μ, ρ, h, rs, rh, p⟩
  refine (po_some he).run pins s σ H Q I (rdE.go rs rh p fun d h1 μ1 H1 v s1 rs1 rh1 dv p1 => ?_)
  split at p1
  · cases dv.to_int
    exact ⟨_, rfl, p1.at rh1⟩
  · exact p1.elim
def mSl (m : ME) (lo hi : MO) : ME := fun ρ h => (m ρ h).bind fun d h1 => (lo ρ h1).bind fun l h2 => (hi ρ h2).bind fun u h3 => Out.ofO (oSl d l u h3)
theorem se_sl {e : Expr} {lo hi : Option Expr} {m : ME} {ml mh : MO} {p2 pos : Pos} (he : SE X ct W e m) (hl : L2.PO X lo (rdO X.K ct W ml)) (hh : L2.PO X hi (rdO X.K ct W mh)) : SE X ct W (.Subscript e (.Slice lo hi none p2) pos) (mSl m ml mh) :=
  (pe_slice sl_M he hl hh).imp fun σ H Q ⟨μ, ρ, h, rs, rh, p⟩ => rdE.go rs rh p fun d h1 μ1 H1 v s1 rs1 rh1 dv p1 =>
    ⟨μ1, ρ, h1, rs1, rh1, (PO.bind p1).mono fun l h2 μ2 H2 s2 rh2 p2 => ⟨μ2, ρ, h2, rs1.mono s2, rh2, (PO.bind p2).mono fun u h3 μ3 H3 s3 rh3 p3 => ⟨μ3, h3, d, (dv.mono s2).mono s3, rh3, p3.ofO⟩⟩⟩
/-! ### methods of lists -/
/-! ### over lists -/
/-- str(n) -/
def bStr : GN
  | [.int i], h => if i.natAbs.log2 < 1920 then some (.str (toString i), h) else none
  | _, _ => none
theorem cr_strM : CallR X (.type "str") (rN X.K bStr) := by
  intro pins s σ H xs us Q I r ⟨μ, h, as, da, rh, p⟩
  unfold bStr at p
  split at p
  · split at p
    · rename_i hl
      obtain ⟨v, rfl, dv⟩ := dens1 da
      cases dv.to_int
      exact call_str_int pins s σ H _ us Q I r ⟨_, rfl, hl, p.fin rh rfl⟩
    · exact p.elim
  · exact p.elim
end
end PI
/-! Constants of the module; dict.get. -/
namespace PI
open PySem PySem.Spec L2
open PyProof.Rows hiding St
section
variable {X : Cx} {ct : Ctb} {W : WX}
/-! ### a dict of tuples as keys; a written dict -/
end
end PI
/-! A dict that is walked: locked meanwhile; keys, values, pairs. -/
namespace PI
open PySem PySem.Spec L2
open PyProof.Rows hiding St
/-! ### the lock undone -/
section
variable {K : PySem.W.Frag} {μ μ' : List Addr} {H H1 : Hp} {a : Addr} {od : Obj} {u : HO}
end
section
variable {K : PySem.W.Frag} {μ : List Addr} {H : Hp} {h h1 : Hh} {k : Nat}
end
section
variable {X : Cx} {ct : Ctb} {W : WX}
end
/-! ### what a locked dict gives -/
section
variable {K : PySem.W.Frag} {μ : List Addr} {H : Hp} {h : Hh} {k n : Nat} {a : Addr} {o : Obj}
end
section
variable {X : Cx} {ct : Ctb} {W : WX} {tg : Expr}
end
end PI
/-! The pairs of a dict, its keys tuples. -/
namespace PI
open PySem PySem.Spec L2
open PyProof.Rows hiding St
section
variable {X : Cx} {pins : List (Addr × Obj)} {σ : L2.St} {H : Hp} {s : Shared} {d : Addr} {o : Obj}
end
section
variable {X : Cx} {ct : Ctb} {W : WX}
end
section
variable {K : PySem.W.Frag} {μ : List Addr} {H : Hp} {h : Hh} {k n : Nat} {a : Addr} {o : Obj}
end
section
variable {X : Cx} {ct : Ctb} {W : WX}
end
end PI
/-! sorted of data: a list's items, a dict's keys. -/
namespace PI
open PySem PySem.Spec L2
open PyProof.Rows hiding St
open PySem.W (dataLe EachIs AllAlike Sortable alike)
section
variable {K : PySem.W.Frag} {μ : List Addr} {H : Hp} {h : Hh}
end
section
variable {X : Cx} {pins : List (Addr × Obj)} {s : Shared} {σ : L2.St} {H : Hp} {μ : List Addr} {h : Hh}
end
section
variable {X : Cx} {pins : List (Addr × Obj)} {s : Shared} {σ : L2.St} {H : Hp} {μ : List Addr} {h : Hh}
end
end PI
namespace PI
open PySem PySem.Spec L2
open PyProof.Rows hiding St
section
variable {X : Cx} {pins : List (Addr × Obj)} {s : Shared} {σ : L2.St} {H : Hp} {μ : List Addr} {h : Hh}
end
end PI
/-! is True; list.index; written dicts; a tuple many times. -/
namespace PI
open PySem PySem.Spec L2
open PyProof.Rows hiding St
section
variable {X : Cx} {ct : Ctb} {W : WX}
/-! ### a written dict -/
/-! ### a tuple many times -/
theorem tuple_mul1 (l : Addr) (items : Array Value) (n : Nat) (dd : Option Addr) (sl : Array (Option Value)) (x : Int) (u : Tok) (c0 : (decide (x < -(2 ^ 63)) || decide (x ≥ 2 ^ 63)) = false) (c1 : (items.isEmpty || x == 1) = true) :
    Meets (Builtin.«tuple.__mul__» ⟨[.ref l, .int x u], []⟩) (fun _ R s => s.heap.get? l = some { cls := .type "tuple", dict := dd, data := .seq items n, slots := sl } ∧
      R (.ok (.ret (.ref l))) s) :=
  .of_wp fun prog w A R s h => by
    obtain ⟨hp, g, d, tk, os⟩ := s
    obtain ⟨hl, h⟩ := h
    have f1 := AutoSeq1.idx_int
    wp_walk using wpAny_loadPart' hl
    refine wpAny_ite_false (decide_eq_false (by rw [c0]; exact Bool.false_ne_true)) ?_
    wp_walk using wpAny_loadPart' hl
    exact ⟨_, rfl, h⟩
theorem tuple_mul0 (l : Addr) (items : Array Value) (n : Nat) (dd : Option Addr) (sl : Array (Option Value)) (x : Int) (u : Tok) (c0 : (decide (x < -(2 ^ 63)) || decide (x ≥ 2 ^ 63)) = false) (c1 : (items.isEmpty || x == 1) = false) (c2 : (decide (x ≤ 0) || items.isEmpty) = true) :
    Meets (Builtin.«tuple.__mul__» ⟨[.ref l, .int x u], []⟩) (fun _ R s => s.heap.get? l = some { cls := .type "tuple", dict := dd, data := .seq items n, slots := sl } ∧
      R (.ok (.ret (Value.ref s.heap.objs.size))) { s with heap := s.heap.push { cls := Value.type "tuple", data := Data.seq #[] }, toks := s.toks }) :=
  .of_wp fun prog w A R s h => by
    obtain ⟨hp, g, d, tk, os⟩ := s
    obtain ⟨hl, h⟩ := h
    have f1 := AutoSeq1.idx_int
    wp_walk using wpAny_loadPart' hl
    refine wpAny_ite_false (decide_eq_false (by rw [c0]; exact Bool.false_ne_true)) ?_
    wp_walk using wpAny_loadPart' hl
    exact ⟨_, rfl, h⟩
def rRepW (K : PySem.W.Frag) : R2 := fun x y H Q => ∃ l k xs, x = .ref l ∧ y = .int k ∧ SqT K H l xs ∧ xs ≠ [] ∧ -1000000 ≤ k ∧ ((xs.length : Nat) : Int) * k ≤ 1000000 ∧ (k = 1 → Q (.ref l) H) ∧ ∀ p, H p = none → Q (.ref p) (upd H p (.tup (List.replicate k.toNat xs).flatten))
theorem op_repW : OpR X (binaryOp .Mult) (rRepW X.K) := by
  rintro pins s σ H x y v u Q I rx ry ⟨l, k, xs, rfl, rfl, seq, some_, two, size_, q1, q⟩
  cases rx
  obtain ⟨t, rfl⟩ := ry
  obtain ⟨its, r, ⟨⟨cls, dd, data, sl⟩, at_l, hc, n, hd⟩, _⟩ := I.tuple seq
  simp only at hc hd
  subst hc hd
  have same : its.length = xs.length := r.length.symm
  have pos : 0 < xs.length := List.length_pos_iff.mpr some_
  have full : its.toArray.isEmpty = false := by
    cases its with
    | nil => rw [← same] at pos; exact absurd pos (by decide)
    | cons => rfl
  have count : its.toArray.size = xs.length := by rw [List.size_toArray, same]
  have klt : k ≤ 1000000 := by
    by_cases k0 : k ≤ 0
    · omega
    · have : 1 * k ≤ ((xs.length : Nat) : Int) * k := Int.mul_le_mul_of_nonneg_right (by omega) (by omega)
      omega
  have nat_ : k.toNat * xs.length ≤ 1000000 := by
    by_cases k0 : k ≤ 0
    · have : k.toNat = 0 := by omega
      rw [this]; omega
    · have : ((k.toNat * xs.length : Nat) : Int) ≤ 1000000 := by
        rw [Int.natCast_mul, Int.toNat_of_nonneg (by omega), Int.mul_comm]
        exact size_
      omega
  have fits : (List.replicate k.toNat its).flatten.length ≤ sizeLine := by
    rw [PyProof.Rows.lm_len_rep_flat, same, sizeLine_eq]
    omega
  have fits2 : (List.replicate k.toNat xs).flatten.length ≤ sizeLine := by
    rw [PyProof.Rows.lm_len_rep_flat, sizeLine_eq]
    omega
  have a0 : (decide (k < -(2 ^ 63)) || decide (k ≥ 2 ^ 63)) = false := by rw [Bool.or_eq_false_iff]; exact ⟨decide_eq_false (by omega), decide_eq_false (by omega)⟩
  refine wpAny_binaryOp_repeat_ref (T := "tuple") (U := "int") (by decide) ⟨_, at_l, rfl⟩ (fun s' => typeIs_int s' k t) noFill_tuple_mul PySem.F.fills_int_mul PySem.F.slot_int_rmul repeat_tuple PySem.F.slot_int_index.lookup ?_
  refine call_meets PySem.F.slot_int_rmul (typeIs_int s k t) PySem.F.entry_int_rmul (PySem.F.args_int_rmul_2 _ _) (int_rmul_tuple k t l its.toArray n dd sl) ⟨at_l, rfl, ⟨_, at_l, rfl⟩, ?_⟩
  by_cases k1 : k = 1
  · have a1 : (its.toArray.isEmpty || k == 1) = true := by rw [k1]; simp
    refine call_meets PySem.F.slot_tuple_mul ⟨_, at_l, rfl⟩ PySem.F.entry_tuple_mul (PySem.F.args_tuple_mul_2 _ _) (tuple_mul1 l its.toArray n dd sl k t a0 a1) ⟨at_l, ?_⟩
    exact ⟨.ref l, _, I, rfl, q1 k1⟩
  have a1 : (its.toArray.isEmpty || k == 1) = false := by rw [full, Bool.false_or]; exact beq_eq_false_iff_ne.mpr k1
  by_cases k0 : k ≤ 0
  · have a2 : (decide (k ≤ 0) || its.toArray.isEmpty) = true := by rw [decide_eq_true k0]; rfl
    refine call_meets PySem.F.slot_tuple_mul ⟨_, at_l, rfl⟩ PySem.F.entry_tuple_mul (PySem.F.args_tuple_mul_2 _ _) (tuple_mul0 l its.toArray n dd sl k t a0 a1 a2) ⟨at_l, ?_⟩
    have e0 : (List.replicate k.toNat xs).flatten = [] := by
      have : k.toNat = 0 := by omega
      rw [this]; rfl
    have q := q _ (I.hok.fresh (Nat.le_refl _))
    rw [e0] at q fits2
    exact ⟨.ref s.heap.objs.size, _, I.laid (t' := s.toks) (o := .tup []) (fun b ob z => Heap.get?_push_of_some _ z) (Nat.le_refl _) ⟨fits2, [], .nil, IsTup.new _ _⟩, rfl, q⟩
  have a2 : (decide (k ≤ 0) || its.toArray.isEmpty) = false := by rw [full, Bool.or_false]; exact decide_eq_false k0
  have a3 : Builtin.Tuple.tupleTooMany (((its.toArray.size : Nat) : Int) * k) = false := by
    unfold Builtin.Tuple.tupleTooMany
    rw [count, sizeLine_eq]
    exact decide_eq_false (by omega)
  have a4 : ¬ ((its.toArray.size : Nat) : Int) * k > (2 ^ 63 - 1) / 8 := by rw [count]; omega
  have mul := tuple_mulW l its.toArray n dd sl k t a0 a1 a2 a4 a3 (by rw [size_rep, List.size_toArray]; exact fits)
  refine call_meets PySem.F.slot_tuple_mul ⟨_, at_l, rfl⟩ PySem.F.entry_tuple_mul (PySem.F.args_tuple_mul_2 _ _) mul ⟨at_l, ?_⟩
  rw [size_rep]
  exact ⟨.ref s.heap.objs.size, _, I.laid (t' := s.toks) (o := .tup (List.replicate k.toNat xs).flatten) (fun b ob z => Heap.get?_push_of_some _ z) (Nat.le_refl _) ⟨fits2, _, r.rep k.toNat, IsTup.new _ _⟩, rfl, q _ (I.hok.fresh (Nat.le_refl _))⟩
/-- any product -/
def oMulA : G2 := fun a b h => match a, b with
  | .tup xs, .int k => if xs ≠ [] ∧ -1000000 ≤ k ∧ ((xs.length : Nat) : Int) * k ≤ 1000000 then some (.tup (List.replicate k.toNat xs).flatten, h) else none
  | a, b => oMul a b h
theorem op_mulA : OpR X (binaryOp .Mult) (r2 X.K oMulA) := by
  intro pins s σ H x y v u Q I rx ry ⟨μ, h, a, b, da, db, rh, p⟩
  unfold oMulA at p
  split at p
  · split at p
    · rename_i xs k c
      obtain ⟨l, vs, rfl, q, dd⟩ := da
      cases db.to_int
      refine op_repW pins s σ H _ _ v u Q I rx ry ⟨l, k, vs, rfl, rfl, SqT.of q, fun z => c.1 (dd.nil_iff.mp z), c.2.1, by rw [dd.length]; exact c.2.2, fun e => ?_, fun p' hp' => p.finT rh (dd.rep k.toNat) p' hp'⟩
      subst e
      have e1 : (List.replicate (1 : Int).toNat xs).flatten = xs := by simp
      rw [e1] at p
      exact p _ _ Step.refl rh _ ⟨l, vs, rfl, q, dd⟩
    · exact p.elim
  · exact op_mulM pins s σ H x y v u Q I rx ry ⟨μ, h, _, _, da, db, rh, p⟩
end
end PI
/-! Order of tuples of numbers; how the newer mirrors are reckoned. -/
namespace PI
open PySem PySem.Spec L2
open PyProof.Rows hiding St
section
variable {X : Cx} {ct : Ctb} {W : WX}
end
/-! ### equations -/
section
variable {ρ : Rho} {h : Hh} {d e : D} {a b c : ME} {m : MA} {i j : Int} {n : Nat} {w w' : Str} {xs ys : List D}
@[simp] theorem oGet_tup : oGet (.tup xs) (.int i) h = (atI xs i).map fun d => (d, h) := rfl
@[simp] theorem oGet_rot : oGet (.rot xs) (.int i) h = (atI xs i).map fun d => (d, h) := rfl
@[simp] theorem oGet_rol : oGet (.rol xs) (.int i) h = (atI xs i).map fun d => (d, h) := rfl
theorem oGet_lst (e : h[n]? = some (.lst xs)) : oGet (.ref n) (.int i) h = (atI xs i).map fun d => (d, h) := by simp [oGet, getD?, oIx, e]
theorem oPut_lst (e : h[n]? = some (.lst xs)) : oPut (.ref n) (.int i) d h = (ixN xs.length i).map fun j => h.set n (.lst (xs.set j d)) := by
  cases q : ixN xs.length i with
  | none => simp [oPut, oSet, setD?, e, q]
  | some j => simp [oPut, oSet, e, q]
@[simp] theorem oMulA_int : oMulA (.int i) (.int j) h = if mulOk i j = true then some (.int (i * j), h) else none := rfl
@[simp] theorem mSl_ap {lo hi : MO} : mSl a lo hi ρ h = (a ρ h).bind fun d h1 => (lo ρ h1).bind fun l h2 => (hi ρ h2).bind fun u h3 => Out.ofO (oSl d l u h3) := rfl
@[simp] theorem moN_ap : moN ρ h = .ok none h := rfl
@[simp] theorem moS_ap : moS a ρ h = (a ρ h).bind fun d h1 => match d with
  | .int i => .ok (some i) h1
  | _ => .bad := rfl
@[simp] theorem mYes_ap : mYes ρ h = .ok true h := rfl
@[simp] theorem mLc_ap {mi : MI} {g : MG} {t : MT} {vs : List Nat} : mLc mi g t a vs ρ h = (mi ρ h).bind fun j h1 => match lcL j g t a h1.length (wipeR ρ vs) j.most 0 (h1 ++ [.lst []]) with
  | some h2 => .ok (.ref h1.length) h2
  | none => .bad := rfl
theorem rng_c {x : Int} (a : 0 ≤ x) (b : x < 1000000000) : -(2 ^ 62) ≤ x ∧ x < 2 ^ 62 := by omega
/-- a comprehension whose body leaves the heap alone -/
theorem lcL_pure {j : MIt} {g : MG} {t : MT} {e : ME} {ρ : Rho} {h1 : Hh} {items : List D} (f : D → Option D) (hl : items.length < sizeLine)
    (hat : ∀ acc i, j.at_ i (h1 ++ [.lst acc]) = some items[i]?)
    (hb : ∀ d ∈ items, ∀ acc, ∃ ρ1, g d ρ (h1 ++ [.lst acc]) = some (ρ1, h1 ++ [.lst acc]) ∧ match f d with
      | none => t ρ1 (h1 ++ [.lst acc]) = .ok false (h1 ++ [.lst acc])
      | some y => t ρ1 (h1 ++ [.lst acc]) = .ok true (h1 ++ [.lst acc]) ∧ e ρ1 (h1 ++ [.lst acc]) = .ok y (h1 ++ [.lst acc])) :
    lcL j g t e h1.length ρ items.length 0 (h1 ++ [.lst []]) = some (h1 ++ [.lst (items.filterMap f)]) := by
  have key : ∀ m i acc, i + m = items.length → acc = (items.take i).filterMap f → lcL j g t e h1.length ρ m i (h1 ++ [.lst acc]) = some (h1 ++ [.lst (items.filterMap f)]) := by
    intro m
    induction m with
    | zero =>
      intro i acc him hacc
      have hi : i = items.length := by omega
      unfold lcL
      rw [hat, hi, List.getElem?_eq_none (Nat.le_refl _), hacc, hi, List.take_length]
    | succ m ih =>
      intro i acc him hacc
      have hi : i < items.length := by omega
      have ei : items[i]? = some items[i] := List.getElem?_eq_getElem hi
      obtain ⟨ρ1, e1, e2⟩ := hb items[i] (List.getElem_mem hi) acc
      have et : items.take (i + 1) = items.take i ++ [items[i]] := by rw [List.take_add_one, ei]; rfl
      unfold lcL
      rw [hat, ei]
      simp only [e1]
      cases ef : f items[i] with
      | none =>
        rw [ef] at e2
        simp only at e2
        simp only [e2]
        exact ih (i + 1) acc (by omega) (by rw [et, List.filterMap_append, hacc]; simp [ef])
      | some y =>
        rw [ef] at e2
        simp only at e2
        have hk : (h1 ++ [Ob.lst acc])[h1.length]? = some (.lst acc) := by simp
        have hlen : acc.length < sizeLine := by
          rw [hacc]
          exact Nat.lt_of_le_of_lt (List.length_filterMap_le _ _) (Nat.lt_of_le_of_lt (by rw [List.length_take]; exact Nat.min_le_right _ _) hl)
        simp only [e2.1, e2.2, hk, if_pos hlen]
        have hset : (h1 ++ [Ob.lst acc]).set h1.length (.lst (acc ++ [y])) = h1 ++ [.lst (acc ++ [y])] := by
          rw [List.set_append_right _ _ (Nat.le_refl _)]
          simp
        rw [hset]
        exact ih (i + 1) (acc ++ [y]) (by omega) (by rw [et, List.filterMap_append, hacc]; simp [ef])
  exact key items.length 0 [] (by omega) (by simp)
/-- a comprehension, by what holds turn by turn -/
theorem lcL_inv {j : MIt} {g : MG} {t : MT} {e : ME} {k : Nat} {ρ : Rho} {h : Hh} (n : Nat) (P : Nat → Hh → Prop) (init : P 0 h) (hend : ∀ h, P n h → j.at_ n h = some none)
    (hit : ∀ i h, i < n → P i h → ∃ d ρ1 h1 b h2, j.at_ i h = some (some d) ∧ g d ρ h = some (ρ1, h1) ∧ t ρ1 h1 = .ok b h2 ∧ ((b = false ∧ P (i + 1) h2) ∨
      (b = true ∧ ∃ y h3 acc, e ρ1 h2 = .ok y h3 ∧ h3[k]? = some (.lst acc) ∧ acc.length < sizeLine ∧ P (i + 1) (h3.set k (.lst (acc ++ [y])))))) : ∃ h', lcL j g t e k ρ n 0 h = some h' ∧ P n h' := by
  have key : ∀ m i h, i + m = n → P i h → ∃ h', lcL j g t e k ρ m i h = some h' ∧ P n h' := by
    intro m
    induction m with
    | zero =>
      intro i h him p
      have hi : i = n := by omega
      subst hi
      refine ⟨h, ?_, p⟩
      unfold lcL
      rw [hend h p]
    | succ m ih =>
      intro i h him p
      obtain ⟨d, ρ1, h1, b, h2, e1, e2, e3, q⟩ := hit i h (by omega) p
      rcases q with ⟨rfl, q⟩ | ⟨rfl, y, h3, acc, e4, e5, e6, q⟩
      · obtain ⟨h', e7, p'⟩ := ih (i + 1) h2 (by omega) q
        refine ⟨h', ?_, p'⟩
        unfold lcL
        rw [e1]
        simp only [e2, e3]
        exact e7
      · obtain ⟨h', e7, p'⟩ := ih (i + 1) _ (by omega) q
        refine ⟨h', ?_, p'⟩
        unfold lcL
        rw [e1]
        simp only [e2, e3, e4, e5, if_pos e6]
        exact e7
  exact key n 0 h (by omega) init
end
end PI
/-! a, b = any sequence. -/
namespace PI
open PySem PySem.Spec L2
open PyProof.Rows hiding St
def gmSeq (n : Nat) (m : MGs) : MG := fun d ρ h => match seqD h d with
  | some ds => if ds.length = n then m ds ρ h else none
  | none => none
section
variable {X : Cx} {ct : Ctb} {W : WX}
theorem sg_seq {es : List Expr} {k : Nat} {m : MGs} {n : Nat} {pos : Pos} (hc : X.calm = true) (h : SGs X es m)
    (hn : (assignEach es X.env).length = n := by rfl) (hst : (assignEach es X.env).findIdx? (·.1) = none := by rfl) : SG X (.Tuple es k pos) (gmSeq n m) := by
  constructor
  intro pins s σ H v u Q I r ⟨μ, ρ, h', d, rs, rh, dv, p⟩
  unfold gmSeq at p
  cases e : seqD h' d with
  | none => rw [e] at p; exact p.elim
  | some ds =>
    rw [e] at p
    dsimp only at p
    by_cases hl : ds.length = n
    · rw [if_pos hl] at p
      obtain ⟨a, vs, rfl, sq, dd⟩ := seqD_ok rh dv e
      rcases sq with sq | sq
      · exact (pg_lst hc h hn hst).run pins s σ H _ u Q I r ⟨a, vs, rfl, sq, by rw [dd.length]; exact hl, μ, ρ, h', ds, rs, rh, dd, p⟩
      · exact (pg_tup hc h hn hst).run pins s σ H _ u Q I r ⟨a, vs, rfl, sq, by rw [dd.length]; exact hl, μ, ρ, h', ds, rs, rh, dd, p⟩
    · rw [if_neg hl] at p
      exact p.elim
end
@[simp] theorem gmSeq_tup {n : Nat} {m : MGs} {ds : List D} {ρ : Rho} {h : Hh} : gmSeq n m (.tup ds) ρ h = if ds.length = n then m ds ρ h else none := rfl
end PI
/-! What is not reached (bad); the values of a locked dict. -/
namespace PI
open PySem PySem.Spec L2
open PyProof.Rows hiding St
section
variable {X : Cx} {ct : Ctb} {W : WX}
def mBadS : MS := fun _ _ => .bad
theorem ss_bad {s : Stmt} : SS X ct W s mBadS := ⟨fun pins s σ H D I ⟨_, _, _, _, _, p⟩ => p.elim⟩
theorem sss_bad {s : List Stmt} : SSs X ct W s mBadS := ⟨fun pins s σ H D I ⟨_, _, _, _, _, p⟩ => p.elim⟩
end
section
variable {K : PySem.W.Frag} {μ : List Addr} {H : Hp} {h : Hh} {k n : Nat} {a : Addr} {o : Obj}
end
section
variable {X : Cx} {ct : Ctb} {W : WX} {tg : Expr}
end
section
variable {X : Cx} {ct : Ctb} {W : WX}
end
/-! ### sorted of a dict whose keys are ints or texts -/
section
variable {X : Cx} {pins : List (Addr × Obj)} {s : Shared} {σ : L2.St} {H : Hp} {μ : List Addr} {h : Hh}
end
end PI
/-! enumerate over a tuple. -/
namespace PI
open PySem PySem.Spec L2
open PyProof.Rows hiding St
section
variable {prog : Program} {w : World} {A : Around} {E : Value → Shared → Prop} {s : Shared}
end
section
variable {K : PySem.W.Frag} {μ : List Addr} {H : Hp} {h : Hh} {a : Addr} {d : D}
end
section
variable {X : Cx} {ct : Ctb} {W : WX}
end
end PI
/-! Instances of own classes: fields, methods, new ones. -/
namespace PI
open PySem PySem.Spec L2
open PyProof.Rows hiding St
section
variable {K : PySem.W.Frag} {μ : List Addr} {H : Hp} {h : Hh}
theorem fld_get : ∀ {fs : List (Str × D)} {gs : List (Str × V)} {f : Str} {d : D}, gs.map (·.1) = fs.map (·.1) → Dens K μ H (fs.map (·.2)) (gs.map (·.2)) → fs.lookup f = some d → ∃ v, gs.lookup f = some v ∧ Den K μ H d v
  | [], _, _, _, _, _, e => by cases e
  | (n, x) :: fs, [], _, _, e1, _, _ => by cases e1
  | (n, x) :: fs, (m, y) :: gs, f, d, e1, dd, e => by
    obtain ⟨v, vr, e2, dv, dr⟩ := dd
    simp only [List.map_cons, List.cons.injEq] at e1 e2
    obtain ⟨rfl, e3⟩ := e1
    obtain ⟨rfl, rfl⟩ := e2
    rw [List.lookup_cons] at e ⊢
    cases hb : (f == m) with
    | true =>
      rw [hb] at e
      cases e
      exact ⟨y, rfl, dv⟩
    | false =>
      rw [hb] at e
      exact fld_get e3 dr e
end
section
variable {K : PySem.W.Frag} {μ : List Addr} {H : Hp} {h h' : Hh} {C : Addr} {f m : Str} {d x : D} {v w : V}
end
section
variable {X : Cx} {ct : Ctb} {W : WX}
end
/-! ### methods, new instances -/
section
variable {X : Cx} {CX : CXT} {k : Nat} {f C : Addr} {fd : FuncData} {ps : List Str} {sp : Sp} {E : L2.St → XK} {x m : Str} {p pos apos : Pos} {e o : Expr} {es : List Expr} {ta : TE} {t : TA}
end
section
variable {X : Cx} {ct : Ctb} {W : WX}
end
end PI
/-! xs[::-1]; methods of texts; the floor of a recursion. -/
namespace PI
open PySem PySem.Spec L2
open PyProof.Rows hiding St
section
open HT
variable {prog : Program} {w : World} {A : Around} {E : Value → Shared → Prop} {s : Shared}
end
section
variable {X : Cx} {ct : Ctb} {W : WX}
/-! ### texts -/
end
end PI
/-! ==, !=, in over things of unlike kinds, whatever they hold. -/
namespace PI
open PySem PySem.Spec L2
open PyProof.Rows hiding St
def scalE : D → D → Option Bool
  | .non, .non => some true
  | .bl a, .bl b => some (a == b)
  | .int a, .int b => some (a == b)
  | .str a, .str b => some (a == b)
  | .bl a, .int b => some ((if a then 1 else 0) == b)
  | .int a, .bl b => some (a == (if b then 1 else 0))
  | .non, .bl _ => some false | .non, .int _ => some false | .non, .str _ => some false
  | .bl _, .non => some false | .int _, .non => some false | .str _, .non => some false
  | .bl _, .str _ => some false | .int _, .str _ => some false | .str _, .bl _ => some false | .str _, .int _ => some false
  | _, _ => none
/-- 0 a scalar, 1 a tuple, 2 a list, 3 something else -/
def kdF (h : Hh) : D → Nat
  | .non => 0 | .bl _ => 0 | .int _ => 0 | .str _ => 0
  | .tup _ => 1 | .rot _ => 1
  | .rol _ => 2
  | .ref i => match h[i]? with
    | some (.lst _) => 2
    | _ => 3
  | .ex _ => 3
  | .exf _ _ _ _ => 3
def eqF (a b : D) (h : Hh) : Option Bool := match scalE a b with
  | some c => some c
  | none => if kdF h a < 3 ∧ kdF h b < 3 ∧ kdF h a ≠ kdF h b then some false else none
/-- two tuples or two lists, one of them empty -/
def emF (a b : D) (h : Hh) : Option Bool := match seqD h a, seqD h b with
  | some xs, some ys => if kdF h a = kdF h b ∧ (xs.isEmpty || ys.isEmpty) = true then some (xs.isEmpty && ys.isEmpty) else none
  | _, _ => none
def oEqF : G2 := fun a b h => match eqF a b h with
  | some c => some (.bl c, h)
  | none => match emF a b h with
    | some c => some (.bl c, h)
    | none => oEq a b h
def oNeF : G2 := fun a b h => match eqF a b h with
  | some c => some (.bl (!c), h)
  | none => match emF a b h with
    | some c => some (.bl (!c), h)
    | none => oNe a b h
def inF (a b : D) (h : Hh) : Option Bool := match seqD h b with
  | some ds => if ds.all (fun d => (eqF d a h).isSome) = true then some (ds.any fun d => (eqF d a h).getD false) else none
  | none => none
def oInF : G2 := fun a b h => match inF a b h with
  | some c => some (.bl c, h)
  | none => oIn a b h
def oNotInF : G2 := fun a b h => match inF a b h with
  | some c => some (.bl (!c), h)
  | none => oNotIn a b h
section
variable {X : Cx} {pins : List (Addr × Obj)} {s : Shared} {σ : L2.St} {H : Hp} {μ : List Addr} {h : Hh} {A : Around}
/-- what a thing of a known kind is in memory -/
inductive KdV (s : Shared) : Nat → D → Value → Prop
  | non : KdV s 0 .non .none
  | bl (b : Bool) : KdV s 0 (.bl b) (.bool b)
  | int (i : Int) (t : Tok) : KdV s 0 (.int i) (.int i t)
  | str (x : Str) (t : Tok) : KdV s 0 (.str x) (.str x t)
  | tup {d : D} {l : Addr} {its : Array Value} : (∀ b, scalE d b = none) → (∀ b, scalE b d = none) → s.heap.IsTuple l its → KdV s 1 d (.ref l)
  | lst {d : D} {l : Addr} {its : Array Value} : (∀ b, scalE d b = none) → (∀ b, scalE b d = none) → s.heap.IsList l its → KdV s 2 d (.ref l)
theorem kdv_of {a : D} {x : V} {v : Value} (I : Inv X pins σ H s) (rh : RelH X.K μ H h) (da : Den X.K μ H a x) (rx : RelV x v) (k : kdF h a < 3) : KdV s (kdF h a) a v := by
  cases a with
  | non => cases da.to_non; cases rx; exact .non
  | bl b => cases da.to_bl; cases rx; exact .bl b
  | int i => cases da.to_int; obtain ⟨t, rfl⟩ := rx; exact .int i t
  | str y => cases da.to_str; obtain ⟨t, rfl⟩ := rx; exact .str y t
  | tup xs =>
    obtain ⟨p, vs, rfl, q, _⟩ := da
    obtain rfl : v = Value.ref p := rx
    obtain ⟨its, r, ht, hz⟩ := I.tuple (SqT.of q)
    exact .tup (fun b => by cases b <;> rfl) (fun b => by cases b <;> rfl) ht
  | rot xs =>
    obtain ⟨p, vs, rfl, q, _⟩ := da
    obtain rfl : v = Value.ref p := rx
    obtain ⟨its, r, ht, hz⟩ := I.tuple q
    exact .tup (fun b => by cases b <;> rfl) (fun b => by cases b <;> rfl) ht
  | rol xs =>
    obtain ⟨p, vs, rfl, q, _⟩ := da
    obtain rfl : v = Value.ref p := rx
    obtain ⟨its, r, ht, hz⟩ := I.list q.sq
    exact .lst (fun b => by cases b <;> rfl) (fun b => by cases b <;> rfl) ht.isList
  | ref i =>
    cases hi : h[i]? with
    | none => simp [kdF, hi] at k
    | some o =>
      cases o with
      | lst xs =>
        obtain ⟨p, vs, rfl, _, q, _⟩ := den_lst rh da hi
        obtain rfl : v = Value.ref p := rx
        obtain ⟨its, r, ht, hz⟩ := I.list (SqL.of q)
        have e : kdF h (.ref i) = 2 := by simp [kdF, hi]
        rw [e]
        exact .lst (fun b => by cases b <;> rfl) (fun b => by cases b <;> rfl) ht.isList
      | _ => simp [kdF, hi] at k
  | ex a => simp [kdF] at k
  | exf a _ _ _ => simp [kdF] at k
theorem eqF_at {a b : D} {x y : V} {v u : Value} {c : Bool} (I : Inv X pins σ H s) (rh : RelH X.K μ H h) (da : Den X.K μ H a x) (db : Den X.K μ H b y) (rx : RelV x v) (ry : RelV y u) (hu : A.units < cLine) (e : eqF a b h = some c) :
    SeqAt.RcAt A s v u c ∧ SeqAt.RcNeAt A s v u (!c) ∧ SeqAt.EqAt A s v u c := by
  unfold eqF at e
  cases e1 : scalE a b with
  | some c' =>
    rw [e1] at e
    cases e
    have ka : kdF h a < 3 := by cases a <;> cases b <;> first | (simp [kdF]; done) | cases e1
    have kb : kdF h b < 3 := by cases a <;> cases b <;> first | (simp [kdF]; done) | cases e1
    have va := kdv_of I rh da rx ka
    have vb := kdv_of I rh db ry kb
    generalize kdF h a = na at va
    generalize kdF h b = nb at vb
    cases va with
    | tup n1 n2 ht => rw [n1] at e1; cases e1
    | lst n1 n2 ht => rw [n1] at e1; cases e1
    | non =>
      cases vb with
      | tup n1 n2 ht => rw [n2] at e1; cases e1
      | lst n1 n2 ht => rw [n2] at e1; cases e1
      | non => cases e1; exact ⟨SeqAt.RcAt.none_none, SeqAt.RcNeAt.none_none, SeqAt.EqAt.same _⟩
      | bl b => cases e1; exact ⟨SeqAt.RcAt.none_bool b, SeqAt.RcNeAt.none_bool b, SeqAt.EqAt.none_bool b⟩
      | int i t => cases e1; exact ⟨SeqAt.RcAt.none_int i t, SeqAt.RcNeAt.none_int i t, SeqAt.EqAt.none_int i t⟩
      | str i t => cases e1; exact ⟨SeqAt.RcAt.none_str i t, SeqAt.RcNeAt.none_str i t, SeqAt.EqAt.none_str i t⟩
    | bl z =>
      cases vb with
      | tup n1 n2 ht => rw [n2] at e1; cases e1
      | lst n1 n2 ht => rw [n2] at e1; cases e1
      | non => cases e1; exact ⟨SeqAt.RcAt.bool_none z, SeqAt.RcNeAt.bool_none z, SeqAt.EqAt.bool_none z⟩
      | bl b => cases e1; exact ⟨SeqAt.RcAt.bool_bool z b, SeqAt.RcNeAt.bool_bool z b, SeqAt.EqAt.bool_bool z b⟩
      | int i t => cases e1; exact ⟨SeqAt.RcAt.bool_int z i t, SeqAt.RcNeAt.bool_int z i t, SeqAt.EqAt.bool_int z i t⟩
      | str i t => cases e1; exact ⟨SeqAt.RcAt.bool_str z i t, SeqAt.RcNeAt.bool_str z i t, SeqAt.EqAt.bool_str z i t⟩
    | int z w =>
      cases vb with
      | tup n1 n2 ht => rw [n2] at e1; cases e1
      | lst n1 n2 ht => rw [n2] at e1; cases e1
      | non => cases e1; exact ⟨SeqAt.RcAt.int_none z w, SeqAt.RcNeAt.int_none z w, SeqAt.EqAt.int_none z w⟩
      | bl b => cases e1; exact ⟨SeqAt.RcAt.int_bool z w b, SeqAt.RcNeAt.int_bool z w b, SeqAt.EqAt.int_bool z w b⟩
      | int i t => cases e1; exact ⟨SeqAt.RcAt.int_int z w i t, SeqAt.RcNeAt.int_int z w i t, SeqAt.EqAt.int_int z w i t⟩
      | str i t => cases e1; exact ⟨SeqAt.RcAt.int_str z w i t, SeqAt.RcNeAt.int_str z w i t, SeqAt.EqAt.int_str z w i t⟩
    | str z w =>
      cases vb with
      | tup n1 n2 ht => rw [n2] at e1; cases e1
      | lst n1 n2 ht => rw [n2] at e1; cases e1
      | non => cases e1; exact ⟨SeqAt.RcAt.str_none z w, SeqAt.RcNeAt.str_none z w, SeqAt.EqAt.str_none z w⟩
      | bl b => cases e1; exact ⟨SeqAt.RcAt.str_bool z w b, SeqAt.RcNeAt.str_bool z w b, SeqAt.EqAt.str_bool z w b⟩
      | int i t => cases e1; exact ⟨SeqAt.RcAt.str_int z w i t, SeqAt.RcNeAt.str_int z w i t, SeqAt.EqAt.str_int z w i t⟩
      | str i t => cases e1; exact ⟨SeqAt.RcAt.str_str z w i t, SeqAt.RcNeAt.str_str z w i t, SeqAt.EqAt.str_str z w i t⟩
  | none =>
    rw [e1] at e
    dsimp only at e
    split at e
    · rename_i k
      cases e
      obtain ⟨ka, kb, ne⟩ := k
      have va := kdv_of I rh da rx ka
      have vb := kdv_of I rh db ry kb
      generalize kdF h a = na at va ne
      generalize kdF h b = nb at vb ne
      cases va with
      | non =>
        cases vb with
        | tup n1 n2 ht => exact ⟨SeqAt.RcAt.none_tuple ht hu, SeqAt.RcNeAt.none_tuple ht hu, SeqAt.EqAt.none_tuple ht hu⟩
        | lst n1 n2 ht => exact ⟨SeqAt.RcAt.none_list ht hu, SeqAt.RcNeAt.none_list ht hu, SeqAt.EqAt.none_list ht hu⟩
        | _ => exact absurd rfl ne
      | bl z =>
        cases vb with
        | tup n1 n2 ht => exact ⟨SeqAt.RcAt.bool_tuple z ht hu, SeqAt.RcNeAt.bool_tuple z ht hu, SeqAt.EqAt.bool_tuple z ht hu⟩
        | lst n1 n2 ht => exact ⟨SeqAt.RcAt.bool_list z ht hu, SeqAt.RcNeAt.bool_list z ht hu, SeqAt.EqAt.bool_list z ht hu⟩
        | _ => exact absurd rfl ne
      | int z w =>
        cases vb with
        | tup n1 n2 ht => exact ⟨SeqAt.RcAt.int_tuple z w ht hu, SeqAt.RcNeAt.int_tuple z w ht hu, SeqAt.EqAt.int_tuple z w ht hu⟩
        | lst n1 n2 ht => exact ⟨SeqAt.RcAt.int_list z w ht hu, SeqAt.RcNeAt.int_list z w ht hu, SeqAt.EqAt.int_list z w ht hu⟩
        | _ => exact absurd rfl ne
      | str z w =>
        cases vb with
        | tup n1 n2 ht => exact ⟨SeqAt.RcAt.str_tuple z w ht hu, SeqAt.RcNeAt.str_tuple z w ht hu, SeqAt.EqAt.str_tuple z w ht hu⟩
        | lst n1 n2 ht => exact ⟨SeqAt.RcAt.str_list z w ht hu, SeqAt.RcNeAt.str_list z w ht hu, SeqAt.EqAt.str_list z w ht hu⟩
        | _ => exact absurd rfl ne
      | tup m1 m2 hq =>
        cases vb with
        | tup n1 n2 ht => exact absurd rfl ne
        | lst n1 n2 ht => exact ⟨SeqAt.RcAt.tuple_list hq ht hu, SeqAt.RcNeAt.tuple_list hq ht hu, SeqAt.EqAt.tuple_list hq ht hu⟩
        | non => exact ⟨SeqAt.RcAt.tuple_none hq hu, SeqAt.RcNeAt.tuple_none hq hu, SeqAt.EqAt.tuple_none hq hu⟩
        | bl z => exact ⟨SeqAt.RcAt.tuple_bool z hq hu, SeqAt.RcNeAt.tuple_bool z hq hu, SeqAt.EqAt.tuple_bool z hq hu⟩
        | int z w => exact ⟨SeqAt.RcAt.tuple_int z w hq hu, SeqAt.RcNeAt.tuple_int z w hq hu, SeqAt.EqAt.tuple_int z w hq hu⟩
        | str z w => exact ⟨SeqAt.RcAt.tuple_str z w hq hu, SeqAt.RcNeAt.tuple_str z w hq hu, SeqAt.EqAt.tuple_str z w hq hu⟩
      | lst m1 m2 hq =>
        cases vb with
        | lst n1 n2 ht => exact absurd rfl ne
        | tup n1 n2 ht => exact ⟨SeqAt.RcAt.list_tuple hq ht hu, SeqAt.RcNeAt.list_tuple hq ht hu, SeqAt.EqAt.list_tuple hq ht hu⟩
        | non => exact ⟨SeqAt.RcAt.list_none hq hu, SeqAt.RcNeAt.list_none hq hu, SeqAt.EqAt.list_none hq hu⟩
        | bl z => exact ⟨SeqAt.RcAt.list_bool z hq hu, SeqAt.RcNeAt.list_bool z hq hu, SeqAt.EqAt.list_bool z hq hu⟩
        | int z w => exact ⟨SeqAt.RcAt.list_int z w hq hu, SeqAt.RcNeAt.list_int z w hq hu, SeqAt.EqAt.list_int z w hq hu⟩
        | str z w => exact ⟨SeqAt.RcAt.list_str z w hq hu, SeqAt.RcNeAt.list_str z w hq hu, SeqAt.EqAt.list_str z w hq hu⟩
    · cases e
end
section
variable {X : Cx} {pins : List (Addr × Obj)} {s : Shared} {σ : L2.St} {H : Hp} {μ : List Addr} {h : Hh} {A : Around}
theorem seq_kd {a : D} {x : V} {xs : List D} (rh : RelH X.K μ H h) (da : Den X.K μ H a x) (e : seqD h a = some xs) :
    (kdF h a = 1 ∧ ∃ p vs, x = .ref p ∧ SqT X.K H p vs ∧ Dens X.K μ H xs vs) ∨ (kdF h a = 2 ∧ ∃ p vs, x = .ref p ∧ SqL X.K H p vs ∧ Dens X.K μ H xs vs) := by
  cases a with
  | tup ys =>
    cases e
    obtain ⟨p, vs, rfl, q, dd⟩ := da
    exact .inl ⟨rfl, p, vs, rfl, SqT.of q, dd⟩
  | rot ys =>
    cases e
    obtain ⟨p, vs, rfl, q, dd⟩ := da
    exact .inl ⟨rfl, p, vs, rfl, q, dd⟩
  | rol ys =>
    cases e
    obtain ⟨p, vs, rfl, q, dd⟩ := da
    exact .inr ⟨rfl, p, vs, rfl, q.sq, dd⟩
  | ref i =>
    have e : (match h[i]? with | some (.lst xs) => some xs | _ => none) = some xs := e
    split at e
    · rename_i ys hi
      cases e
      obtain ⟨p, vs, rfl, _, q, dd⟩ := den_lst rh da hi
      exact .inr ⟨by simp [kdF, hi], p, vs, rfl, SqL.of q, dd⟩
    · cases e
  | _ => cases e
theorem emF_at {a b : D} {x y : V} {v u : Value} {c : Bool} (I : Inv X pins σ H s) (rh : RelH X.K μ H h) (da : Den X.K μ H a x) (db : Den X.K μ H b y) (rx : RelV x v) (ry : RelV y u) (hu : A.units < cLine) (e : emF a b h = some c) :
    SeqAt.RcAt A s v u c ∧ SeqAt.RcNeAt A s v u (!c) := by
  unfold emF at e
  split at e
  · rename_i xs ys e1 e2
    split at e
    · rename_i k
      cases e
      obtain ⟨k1, k2⟩ := k
      have none_ : ∀ {n m : Nat} (its its2 : Array Value), its.size = n → its2.size = m → (n = 0 ∨ m = 0) → ∀ j (h1 : j < its.size) (h2 : j < its2.size), SeqAt.EqAt A.in1 s its[j] its2[j] ((fun _ => true) j) := fun its its2 e1 e2 z j h1 h2 => by omega
      have zz : xs.length = 0 ∨ ys.length = 0 := by
        rw [Bool.or_eq_true] at k2
        rcases k2 with z | z
        · exact .inl (by rw [List.isEmpty_iff.mp z]; rfl)
        · exact .inr (by rw [List.isEmpty_iff.mp z]; rfl)
      have em : ∀ l : List D, l.isEmpty = (l.length == 0) := fun l => by cases l <;> simp
      rcases seq_kd rh da e1 with ⟨q1, p, vs, rfl, sa, da'⟩ | ⟨q1, p, vs, rfl, sa, da'⟩
      · rcases seq_kd rh db e2 with ⟨q2, p2, vs2, rfl, sb, db'⟩ | ⟨q2, _⟩
        · obtain rfl : v = Value.ref p := rx
          obtain rfl : u = Value.ref p2 := ry
          obtain ⟨its, r, ht, hz⟩ := I.tuple sa
          obtain ⟨its2, r2, ht2, hz2⟩ := I.tuple sb
          have l1 : its.toArray.size = xs.length := by rw [List.size_toArray, ← r.length, da'.length]
          have l2 : its2.toArray.size = ys.length := by rw [List.size_toArray, ← r2.length, db'.length]
          have fin : ((List.range (min its.toArray.size its2.toArray.size)).all (fun _ => true) && its.toArray.size == its2.toArray.size) = (xs.isEmpty && ys.isEmpty) := by
            rw [l1, l2, em, em]
            have : (List.range (min xs.length ys.length)).all (fun _ => true) = true := by rw [List.all_eq_true]; intro _ _; rfl
            rw [this, Bool.true_and, Bool.eq_iff_iff]
            simp only [Bool.and_eq_true, beq_iff_eq]
            omega
          rw [← fin]
          exact ⟨SeqAt.RcAt.tuples ht ht2 hu (none_ _ _ l1 l2 zz), SeqAt.RcNeAt.tuples ht ht2 hu (none_ _ _ l1 l2 zz)⟩
        · rw [q1, q2] at k1; cases k1
      · rcases seq_kd rh db e2 with ⟨q2, _⟩ | ⟨q2, p2, vs2, rfl, sb, db'⟩
        · rw [q1, q2] at k1; cases k1
        · obtain rfl : v = Value.ref p := rx
          obtain rfl : u = Value.ref p2 := ry
          obtain ⟨its, r, ht, hz⟩ := I.list sa
          obtain ⟨its2, r2, ht2, hz2⟩ := I.list sb
          have l1 : its.toArray.size = xs.length := by rw [List.size_toArray, ← r.length, da'.length]
          have l2 : its2.toArray.size = ys.length := by rw [List.size_toArray, ← r2.length, db'.length]
          by_cases sz : xs.length = ys.length
          · have fin : ((List.range its.toArray.size).all (fun _ => true)) = (xs.isEmpty && ys.isEmpty) := by
              have : (List.range its.toArray.size).all (fun _ => true) = true := by rw [List.all_eq_true]; intro _ _; rfl
              have z0 : xs.length = 0 ∧ ys.length = 0 := by omega
              rw [this, em, em, z0.1, z0.2]
              rfl
            rw [← fin]
            exact ⟨SeqAt.RcAt.lists ht.isList ht2.isList (by omega) hu (none_ _ _ l1 l2 zz), SeqAt.RcNeAt.lists ht.isList ht2.isList (by omega) hu (none_ _ _ l1 l2 zz)⟩
          · have fin : (xs.isEmpty && ys.isEmpty) = false := by
              rw [em, em, Bool.eq_false_iff]
              simp only [ne_eq, Bool.and_eq_true, beq_iff_eq]
              omega
            have hs : (its.toArray.size != its2.toArray.size) = true := by simp only [bne_iff_ne, ne_eq]; omega
            rw [fin]
            exact ⟨SeqAt.RcAt.lists_lengths ht.isList ht2.isList hs hu, SeqAt.RcNeAt.lists_lengths ht.isList ht2.isList hs hu⟩
    · cases e
  · cases e
end
section
variable {X : Cx}
theorem op_eqF (hu : X.A.units + 64 < cLine) : OpR X (compareOp .Eq) (r2 X.K oEqF) := by
  intro pins s σ H x y v u Q I rx ry ⟨μ, h, a, b, da, db, rh, p⟩
  unfold oEqF at p
  cases e : eqF a b h with
  | some c =>
    rw [e] at p
    exact (eqF_at I rh da db rx ry (by omega) e).1 _ _ _ _ ⟨.bl _, H, I, rfl, p.fin rh rfl⟩
  | none =>
    rw [e] at p
    dsimp only at p
    cases e2 : emF a b h with
    | some c =>
      rw [e2] at p
      exact (emF_at I rh da db rx ry (by omega) e2).1 _ _ _ _ ⟨.bl _, H, I, rfl, p.fin rh rfl⟩
    | none =>
      rw [e2] at p
      exact op_eqM hu pins s σ H x y v u Q I rx ry ⟨μ, h, a, b, da, db, rh, p⟩
theorem op_neF (hu : X.A.units + 64 < cLine) : OpR X (compareOp .NotEq) (r2 X.K oNeF) := by
  intro pins s σ H x y v u Q I rx ry ⟨μ, h, a, b, da, db, rh, p⟩
  unfold oNeF at p
  cases e : eqF a b h with
  | some c =>
    rw [e] at p
    exact (eqF_at I rh da db rx ry (by omega) e).2.1 _ _ _ _ ⟨.bl _, H, I, rfl, p.fin rh rfl⟩
  | none =>
    rw [e] at p
    dsimp only at p
    cases e2 : emF a b h with
    | some c =>
      rw [e2] at p
      exact (emF_at I rh da db rx ry (by omega) e2).2 _ _ _ _ ⟨.bl _, H, I, rfl, p.fin rh rfl⟩
    | none =>
      rw [e2] at p
      exact op_neM hu pins s σ H x y v u Q I rx ry ⟨μ, h, a, b, da, db, rh, p⟩
/-- what an item is equal to, by its value -/
def eV (a : D) : Value → Bool
  | .none => (scalE .non a).getD false
  | .bool b => (scalE (.bl b) a).getD false
  | .int i _ => (scalE (.int i) a).getD false
  | .str x _ => (scalE (.str x) a).getD false
  | _ => false
theorem eV_of {pins : List (Addr × Obj)} {s : Shared} {σ : L2.St} {H : Hp} {μ : List Addr} {h : Hh} {d a : D} {y : V} {u : Value} {c : Bool} (I : Inv X pins σ H s) (rh : RelH X.K μ H h) (dd : Den X.K μ H d y) (ry : RelV y u) (e : eqF d a h = some c) : eV a u = c := by
  unfold eqF at e
  have kd : kdF h d < 3 := by
    cases e1 : scalE d a with
    | some c' => cases a <;> cases d <;> first | (simp [kdF]; done) | cases e1
    | none => rw [e1] at e; dsimp only at e; split at e <;> first | (rename_i k; exact k.1) | cases e
  have vd := kdv_of I rh dd ry kd
  generalize kdF h d = n at vd e
  have fin : ∀ {o : Option Bool} {p : Prop} [Decidable p], (match o with | some c => some c | none => if p then some false else none) = some c → o.getD false = c := by
    intro o p _ e
    cases o with
    | some c' => cases e; rfl
    | none =>
      dsimp only at e
      split at e
      · cases e; rfl
      · cases e
  cases vd with
  | non => exact fin e
  | bl b => exact fin e
  | int i t => exact fin e
  | str x t => exact fin e
  | tup n1 n2 ht => rw [n1] at e; exact fin (o := none) e
  | lst n1 n2 ht => rw [n1] at e; exact fin (o := none) e
theorem inF_any {pins : List (Addr × Obj)} {s : Shared} {σ : L2.St} {H : Hp} {μ : List Addr} {h : Hh} {a : D} {x : V} {v : Value} {A : Around} (I : Inv X pins σ H s) (rh : RelH X.K μ H h) (da : Den X.K μ H a x) (rx : RelV x v) (hu : A.units < cLine) : ∀ {ds : List D} {vs : List V} {us : List Value},
    Dens X.K μ H ds vs → Vals vs us → (ds.all fun d => (eqF d a h).isSome) = true → (us.any (eV a)) = (ds.any fun d => (eqF d a h).getD false) ∧ ∀ u ∈ us, SeqAt.EqAt A s u v (eV a u)
  | [], _, _, dd, rv, _ => by
    have dd : _ = [] := dd
    subst dd
    cases rv
    exact ⟨rfl, fun u hu => by cases hu⟩
  | d :: ds, _, _, dd, rv, al => by
    obtain ⟨w, vr, rfl, dw, dr⟩ := dd
    cases rv with
    | cons r1 r2 =>
      rw [List.all_cons, Bool.and_eq_true] at al
      obtain ⟨c, ec⟩ := Option.isSome_iff_exists.mp al.1
      obtain ⟨i1, i2⟩ := inF_any I rh da rx hu dr r2 al.2
      have e1 := eV_of I rh dw r1 ec
      refine ⟨by rw [List.any_cons, List.any_cons, i1, ec, e1]; rfl, fun u hm => ?_⟩
      rcases List.mem_cons.mp hm with rfl | hm
      · rw [e1]
        exact (eqF_at I rh dw da r1 rx hu ec).2.2
      · exact i2 u hm
theorem inF_ok {pins : List (Addr × Obj)} {s : Shared} {σ : L2.St} {H : Hp} {μ : List Addr} {h : Hh} {a b : D} {x y : V} {v u : Value} {Q : VK} {c neg : Bool} {k : Nat} (hr : Room k X.A) (I : Inv X pins σ H s) (rx : RelV x v) (ry : RelV y u) (da : Den X.K μ H a x) (db : Den X.K μ H b y) (rh : RelH X.K μ H h) (e : inF a b h = some c)
    (q : Q (.bl (if neg then !c else c)) H) : wpAny (model X.prog X.w) X.A (compareOp (if neg then .NotIn else .In) v u) (EP X pins σ Q) X.xe s := by
  unfold inF at e
  have hu : X.A.in1.units < cLine := by have := hr.units; show X.A.units + 1 < cLine; omega
  split at e
  · rename_i ds es
    split at e
    · rename_i al
      cases e
      obtain ⟨p, vs, rfl, sq, dd⟩ := seqD_ok rh db es
      obtain rfl : u = Value.ref p := ry
      rcases sq with sq | sq
      · obtain ⟨its, r, ht, hz⟩ := I.list sq
        obtain ⟨i1, i2⟩ := inF_any (A := X.A.in1) I rh da rx hu dd r al
        have i2 : ∀ z, z ∈ its.toArray → SeqAt.EqAt X.A.in1 s z v (eV a z) := fun z hz => i2 z (by simpa using hz)
        cases neg
        · exact SeqAt.in_listAt (eV a) ht.isList i2 ⟨.bl _, H, I, by rw [List.any_toArray, i1]; rfl, q⟩
        · exact SeqAt.notIn_listAt (eV a) ht.isList i2 ⟨.bl _, H, I, by rw [List.any_toArray, i1]; rfl, q⟩
      · obtain ⟨its, r, ht, hz⟩ := I.tuple sq
        obtain ⟨i1, i2⟩ := inF_any (A := X.A.in1) I rh da rx hu dd r al
        have i2 : ∀ z, z ∈ its.toArray → SeqAt.EqAt X.A.in1 s z v (eV a z) := fun z hz => i2 z (by simpa using hz)
        cases neg
        · exact SeqAt.in_tupleAt (eV a) ht i2 ⟨.bl _, H, I, by rw [List.any_toArray, i1]; rfl, q⟩
        · exact SeqAt.notIn_tupleAt (eV a) ht i2 ⟨.bl _, H, I, by rw [List.any_toArray, i1]; rfl, q⟩
    · cases e
  · cases e
theorem op_inF {k : Nat} (hr : Room k X.A) : OpR X (compareOp .In) (r2 X.K oInF) := by
  intro pins s σ H x y v u Q I rx ry ⟨μ, h, a, b, da, db, rh, p⟩
  unfold oInF at p
  cases e : inF a b h with
  | some c =>
    rw [e] at p
    exact inF_ok (neg := false) hr I rx ry da db rh e (p.fin rh rfl)
  | none =>
    rw [e] at p
    exact op_inA hr pins s σ H x y v u Q I rx ry ⟨μ, h, a, b, da, db, rh, p⟩
theorem op_notInF {k : Nat} (hr : Room k X.A) : OpR X (compareOp .NotIn) (r2 X.K oNotInF) := by
  intro pins s σ H x y v u Q I rx ry ⟨μ, h, a, b, da, db, rh, p⟩
  unfold oNotInF at p
  cases e : inF a b h with
  | some c =>
    rw [e] at p
    exact inF_ok (neg := true) hr I rx ry da db rh e (p.fin rh rfl)
  | none =>
    rw [e] at p
    exact op_notInA hr pins s σ H x y v u Q I rx ry ⟨μ, h, a, b, da, db, rh, p⟩
end
/-! ### methods and classes as the top has written them -/
section
variable {P : Program} {w : World} {K : PySem.W.Frag} {mg : Str → Option Value} {base : Heap} {ct : Ctb} {k : Nat} {C : Addr} {m x qual : Str} {st : Stmt} {ps : List Str} {f : FnM}
end
/-! ### a truth value as a number -/
section
variable {X : Cx}
end
end PI
/-! What a mirror does, by what holds behind it. -/
namespace PI
open PySem PySem.Spec L2
open PyProof.Rows hiding St
/-- a wish, kept from simp as an instance -/
class Pst (α : Type) where
  p : α → Hh → Prop
class Po where
  nx : Rho → Hh → Prop
  rt : D → Hh → Prop
  bk : Rho → Hh → Prop
  ct : Rho → Hh → Prop
  er : Exn → Rho → Hh → Prop
abbrev noX : Exn → Hh → Prop := fun _ _ => False
/-- (never unfolded by itself: it would run the program) -/
@[irreducible] def wS (o : OutS) [Q : Po] : Prop := match o with
  | .nx ρ h => Q.nx ρ h
  | .rt d h => Q.rt d h
  | .bk ρ h => Q.bk ρ h
  | .ct ρ h => Q.ct ρ h
  | .er x ρ h => Q.er x ρ h
  | .bad => False
@[irreducible] def wO {α : Type} (o : Out α) [Q : Pst α] [E : Pst Exn] : Prop := match o with
  | .ok a h => Q.p a h
  | .err x h => E.p x h
  | .bad => False
/-- what a computation does: it ends, without an exception, so -/
@[reducible] def spec {α : Type} (o : Out α) (P : α → Hh → Prop) : Prop := @wO α o ⟨P⟩ ⟨noX⟩
@[reducible] def Hold {α : Type} [Q : Pst α] (a : α) (h : Hh) : Prop := Q.p a h
/-- then y -/
@[reducible] def Po.then (Q : Po) (y : MS) : Po := ⟨fun ρ h => @wS (y ρ h) Q, Q.rt, Q.bk, Q.ct, Q.er⟩
/-- a def's end -/
@[reducible] def Po.fin (Q : Pst D) (E : Pst Exn) : Po := ⟨fun _ h => Q.p .non h, Q.p, fun _ _ => False, fun _ _ => False, fun x _ h => E.p x h⟩
section
variable {α β : Type} {o o' : Out α} {s s' : OutS} {Q Q' : Po} {ρ : Rho} {h h' : Hh} {d : D} {x : Exn} {a : α} {E E' : Pst Exn} {P P' : Pst α} {R : Pst D} {y z : MS} {f : α → Hh → Out β} {k : α → Hh → OutS}
@[simp] theorem wS_nx : @wS (.nx ρ h) Q = Q.nx ρ h := by unfold wS; rfl
@[simp] theorem wS_rt : @wS (.rt d h) Q = Q.rt d h := by unfold wS; rfl
@[simp] theorem wS_bk : @wS (.bk ρ h) Q = Q.bk ρ h := by unfold wS; rfl
@[simp] theorem wS_ct : @wS (.ct ρ h) Q = Q.ct ρ h := by unfold wS; rfl
@[simp] theorem wS_er : @wS (.er x ρ h) Q = Q.er x ρ h := by unfold wS; rfl
@[simp] theorem wS_bad : @wS .bad Q = False := by unfold wS; rfl
@[simp] theorem wO_ok : @wO α (.ok a h) P E = @Hold α P a h := by unfold wO; rfl
@[simp] theorem wO_err : @wO α (.err x h) P E = @Hold Exn E x h := by unfold wO; rfl
@[simp] theorem wO_bad : @wO α .bad P E = False := by unfold wO; rfl
@[simp] theorem then_nx : (Q.then y).nx ρ h = @wS (y ρ h) Q := rfl
@[simp] theorem then_rt : (Q.then y).rt d h = Q.rt d h := rfl
@[simp] theorem then_bk : (Q.then y).bk ρ h = Q.bk ρ h := rfl
@[simp] theorem then_ct : (Q.then y).ct ρ h = Q.ct ρ h := rfl
@[simp] theorem then_er : (Q.then y).er x ρ h = Q.er x ρ h := rfl
@[simp] theorem fin_nx : (Po.fin R E).nx ρ h = @Hold D R .non h := rfl
@[simp] theorem fin_rt : (Po.fin R E).rt d h = @Hold D R d h := rfl
@[simp] theorem fin_bk : (Po.fin R E).bk ρ h = False := rfl
@[simp] theorem fin_ct : (Po.fin R E).ct ρ h = False := rfl
@[simp] theorem fin_er : (Po.fin R E).er x ρ h = @Hold Exn E x h := rfl
@[simp] theorem wS_seq : @wS (s.seq y) Q = @wS s (Q.then y) := by cases s <;> simp [OutS.seq]
@[simp] theorem wO_out : @wO D s.out R E = @wS s (Po.fin R E) := by cases s <;> simp [OutS.out]
@[simp] theorem bind_bind {γ : Type} {g : β → Hh → Out γ} : (o.bind f).bind g = o.bind fun a h => (f a h).bind g := by cases o <;> rfl
@[simp] theorem bindS_bind {k : β → Hh → OutS} : (o.bind f).bindS ρ k = o.bindS ρ fun a h => (f a h).bindS ρ k := by cases o <;> rfl
@[simp] theorem bindS_ok : (Out.ok a h).bindS ρ k = k a h := rfl
@[simp] theorem bindS_err : (Out.err x h : Out α).bindS ρ k = .er x ρ h := rfl
@[simp] theorem bindS_bad : (Out.bad : Out α).bindS ρ k = .bad := rfl
@[simp] theorem seq_nx' : (OutS.nx ρ h).seq y = y ρ h := rfl
@[simp] theorem seq_rt' : (OutS.rt d h).seq y = .rt d h := rfl
@[simp] theorem seq_bk' : (OutS.bk ρ h).seq y = .bk ρ h := rfl
@[simp] theorem seq_ct' : (OutS.ct ρ h).seq y = .ct ρ h := rfl
@[simp] theorem seq_er' : (OutS.er x ρ h).seq y = .er x ρ h := rfl
@[simp] theorem seq_bad' : (OutS.bad).seq y = .bad := rfl
/-- what a computation gives, then the rest -/
theorem wO.bind {P : α → Hh → Prop} {R : Pst β} (w : spec o P) (i : ∀ a h, P a h → @wO β (f a h) R E) : @wO β (o.bind f) R E := by
  cases o with
  | ok a h => rw [spec, wO_ok] at w; exact i _ _ w
  | err x h => rw [spec, wO_err] at w; exact w.elim
  | bad => rw [spec, wO_bad] at w; exact w.elim
theorem wS.bind {P : α → Hh → Prop} (w : spec o P) (i : ∀ a h, P a h → @wS (k a h) Q) : @wS (o.bindS ρ k) Q := by
  cases o with
  | ok a h => rw [spec, wO_ok] at w; exact i _ _ w
  | err x h => rw [spec, wO_err] at w; exact w.elim
  | bad => rw [spec, wO_bad] at w; exact w.elim
theorem spec.ex {P : α → Hh → Prop} (w : spec o P) : ∃ a h, o = .ok a h ∧ P a h := by
  cases o with
  | ok a h => rw [spec, wO_ok] at w; exact ⟨a, h, rfl, w⟩
  | err x h => rw [spec, wO_err] at w; exact w.elim
  | bad => rw [spec, wO_bad] at w; exact w.elim
theorem spec.of {P : α → Hh → Prop} (e : o = .ok a h) (p : P a h) : spec o P := by rw [e, spec, wO_ok]; exact p
/-- the mirror of a def -/
theorem wO_fn {N : Nat} {b : MS} {ds : List D} (w : @wS (b (ds.map some ++ List.replicate (N - ds.length) none) h) (Po.fin R E)) : @wO D (mFn N b ds h) R E := by
  unfold mFn
  rw [wO_out]
  exact w
/-- a loop by what holds between its turns -/
@[reducible] def Po.turn (Q : Po) (P : Rho → Hh → Prop) : Po := ⟨P, Q.rt, Q.nx, P, Q.er⟩
@[simp] theorem turn_nx {P : Rho → Hh → Prop} : (Q.turn P).nx ρ h = @Hold Rho ⟨P⟩ ρ h := rfl
@[simp] theorem turn_rt {P : Rho → Hh → Prop} : (Q.turn P).rt d h = Q.rt d h := rfl
@[simp] theorem turn_bk {P : Rho → Hh → Prop} : (Q.turn P).bk ρ h = Q.nx ρ h := rfl
@[simp] theorem turn_ct {P : Rho → Hh → Prop} : (Q.turn P).ct ρ h = @Hold Rho ⟨P⟩ ρ h := rfl
@[simp] theorem turn_er {P : Rho → Hh → Prop} : (Q.turn P).er x ρ h = Q.er x ρ h := rfl
theorem wS.loop {j : MIt} {g : MG} {b : MS} {n : Nat} (P : Nat → Rho → Hh → Prop) (init : P 0 ρ h) (hend : ∀ ρ h, P n ρ h → j.at_ n h = some none ∧ Q.nx ρ h)
    (hit : ∀ i ρ h, i < n → P i ρ h → ∃ d ρ1 h1, j.at_ i h = some (some d) ∧ g d ρ h = some (ρ1, h1) ∧ @wS (b ρ1 h1) (Q.turn (P (i + 1)))) : @wS (forL j g b n 0 ρ h) Q := by
  have key : ∀ m i ρ h, i + m = n → P i ρ h → @wS (forL j g b m i ρ h) Q := by
    intro m
    induction m with
    | zero =>
      intro i ρ h e p
      have e : i = n := by omega
      subst e
      obtain ⟨e1, q⟩ := hend _ _ p
      unfold forL
      rw [e1]
      dsimp only
      rw [wS_nx]
      exact q
    | succ m ih =>
      intro i ρ h e p
      obtain ⟨d, ρ1, h1, e1, e2, w⟩ := hit i ρ h (by omega) p
      unfold forL
      rw [e1]
      simp only [e2]
      have w0 := w
      unfold wS at w
      cases eb : b ρ1 h1 with
      | nx ρ' h' => rw [eb] at w; exact ih (i + 1) _ _ (by omega) w
      | ct ρ' h' => rw [eb] at w; exact ih (i + 1) _ _ (by omega) w
      | bk ρ' h' => rw [eb] at w; dsimp only; rw [wS_nx]; exact w
      | rt d h' => rw [eb] at w; dsimp only; rw [wS_rt]; exact w
      | er x ρ' h' => rw [eb] at w; dsimp only; rw [wS_er]; exact w
      | bad => rw [eb] at w; exact w.elim
  exact key n 0 ρ h (by omega) init
end
/-! ### heaps that grow -/
structure Ext (S : Nat → Prop) (h h' : Hh) : Prop where
  len : h.length ≤ h'.length
  keep : ∀ i o, h[i]? = some o → ¬ S i → h'[i]? = some o
abbrev noS : Nat → Prop := fun _ => False
section
variable {S S' : Nat → Prop} {h h1 h2 : Hh} {i : Nat} {o o' : Ob}
theorem Ext.refl : Ext S h h := ⟨Nat.le_refl _, fun _ _ e _ => e⟩
theorem Ext.trans (a : Ext S h h1) (b : Ext S h1 h2) : Ext S h h2 := ⟨Nat.le_trans a.len b.len, fun i o e n => b.keep i o (a.keep i o e n) n⟩
theorem Ext.push {l : Hh} : Ext S h (h ++ l) := ⟨by simp, fun i o e _ => by rw [List.getElem?_append_left (List.getElem?_eq_some_iff.mp e).1]; exact e⟩
theorem Ext.pushR {l : Hh} (a : Ext S h h1) : Ext S h (h1 ++ l) := a.trans .push
theorem Ext.set (s : S i) : Ext S h (h.set i o) := ⟨by simp, fun j p e n => by
  rw [List.getElem?_set_ne (fun z => n (by rw [← z]; exact s))]; exact e⟩
theorem Ext.weak (a : Ext S h h1) (w : ∀ i, i < h.length → S i → S' i) : Ext S' h h1 := ⟨a.len, fun i o e n => a.keep i o e fun z => n (w i (List.getElem?_eq_some_iff.mp e).1 z)⟩
theorem Ext.of (a : Ext noS h h1) : Ext S h h1 := a.weak fun _ _ z => z.elim
theorem Ext.get (a : Ext noS h h1) (e : h[i]? = some o) : h1[i]? = some o := a.keep i o e fun z => z
theorem lt_of (e : h[i]? = some o) : i < h.length := (List.getElem?_eq_some_iff.mp e).1
theorem set_get (e : h[i]? = some o) : (h.set i o')[i]? = some o' := by rw [List.getElem?_set_self (lt_of e)]
theorem set_ne {j : Nat} (e : h[i]? = some o) (n : i ≠ j) : (h.set j o')[i]? = some o := by rw [List.getElem?_set_ne (Ne.symm n)]; exact e
theorem push_get {l : Hh} (e : h[i]? = some o) : (h ++ l)[i]? = some o := by rw [List.getElem?_append_left (lt_of e)]; exact e
theorem push_new : (h ++ [o])[h.length]? = some o := by simp
theorem new_of (e : h ++ [o] = h1) : h1[h.length]? = some o := e ▸ push_new
theorem get_of {p : Ob} (e : h ++ [o] = h1) (q : h[i]? = some p) : h1[i]? = some p := e ▸ push_get q
theorem ext_of (e : h ++ [o] = h1) : Ext S h h1 := e ▸ Ext.push
theorem len_of (e : h ++ [o] = h1) : h1.length = h.length + 1 := by rw [← e]; simp
end
end PI
set_option autoImplicit false
/-! Helps: tables, sorting, equality of plain data. -/
namespace PI
open PySem PySem.Spec L2
open PyProof.Rows hiding St
open PySem.W (dataLe alike)
/-! ### tables -/
section
variable {α : Type} [DecidableEq α]
end
/-! ### data -/
theorem toPys_map {α : Type} {h : Hh} {n : Nat} {enc : α → D} {py : α → PyData} {xs : List α} (e : ∀ x ∈ xs, toPy h n (enc x) = some (py x)) : toPys h n (xs.map enc) = some (xs.map py) := by
  induction xs with
  | nil => simp [toPys]
  | cons x xs ih =>
    rw [List.map_cons, List.map_cons]
    unfold toPys
    rw [e x List.mem_cons_self, ih fun y hy => e y (List.mem_cons_of_mem _ hy)]
section
variable {h : Hh} {n r : Nat} {ds : List D} {a b : D}
end
@[simp] theorem oSl_tup {xs : List D} {lo hi : Option Int} {h : Hh} : oSl (.tup xs) lo hi h = some (.tup (PI.cutD xs lo hi), h) := rfl
theorem mulL {h : Hh} {r k : Nat} {xs : List D} (e : h[r]? = some (.lst xs)) (l : xs.length * k ≤ 1000000) (l2 : k ≤ 1000000) : oMulA (.ref r) (.int (k : Int)) h = some (.ref h.length, h ++ [.lst (List.replicate k xs).flatten]) := by
  have c : xs.length * k ≤ sizeLine := Nat.le_trans l (by decide)
  have a : -(2 ^ 63) ≤ (k : Int) ∧ (k : Int) < 2 ^ 63 := by omega
  have e1 : oMul (.ref r) (.int (k : Int)) h = if -(2 ^ 63) ≤ (k : Int) ∧ (k : Int) < 2 ^ 63 ∧ xs.length * (k : Int).toNat ≤ sizeLine then some (D.ref h.length, h ++ [Ob.lst (List.replicate (k : Int).toNat xs).flatten]) else none := by
    simp only [oMul, e]
  have e2 : oMulA (.ref r) (.int (k : Int)) h = oMul (.ref r) (.int (k : Int)) h := rfl
  rw [e2, e1, if_pos ⟨a.1, a.2, by rw [Int.toNat_natCast]; exact c⟩, Int.toNat_natCast]
/-! ### ranges -/
def rngO : D → Hh → Out MIt
  | .int n, h => if -(2 ^ 62) ≤ n ∧ n < 2 ^ 62 then .ok (jRng 0 n.toNat) h else .bad
  | _, _ => .bad
@[simp] theorem miRng1_app {a : ME} {ρ : Rho} {h : Hh} : miRng1 a ρ h = (a ρ h).bind fun d h1 => rngO d h1 := by
  unfold miRng1
  cases a ρ h with
  | ok d h1 => cases d <;> rfl
  | err x h1 => rfl
  | bad => rfl
@[simp] theorem rngO_int {n : Int} {h : Hh} (b : 0 ≤ n ∧ n < 1000000000) : rngO (.int n) h = .ok (jRng 0 n.toNat) h := by
  show (if -(2 ^ 62) ≤ n ∧ n < 2 ^ 62 then Out.ok (jRng 0 n.toNat) h else .bad) = _
  rw [if_pos (rng_c b.1 b.2)]
@[simp] theorem rngO_nat {n : Nat} {h : Hh} (b : n < 1000000000) : rngO (.int (n : Int)) h = .ok (jRng 0 n) h := by
  rw [rngO_int (by omega), Int.toNat_natCast]
/-! ### comprehensions -/
theorem lt_sl {n : Nat} (h : n < 1000000) : n < sizeLine := Nat.lt_of_lt_of_le h (by decide)
theorem le_sl {n : Nat} (h : n ≤ 1000000) : n ≤ sizeLine := Nat.le_trans h (by decide)
theorem spec.lc {j : MIt} {g : MG} {t : MT} {e : ME} {ρ : Rho} {h1 : Hh} {n : Nat} {R : D → Hh → Prop} (P : Nat → List D → Hh → Prop) (hn : n < sizeLine) (init : P 0 [] (h1 ++ [.lst []]))
    (hend : ∀ acc h, P n acc h → h[h1.length]? = some (.lst acc) → j.at_ n h = some none ∧ R (.ref h1.length) h)
    (hit : ∀ i acc h, i < n → P i acc h → h[h1.length]? = some (.lst acc) → ∃ d ρ1 h', j.at_ i h = some (some d) ∧ g d ρ h = some (ρ1, h') ∧ @wO Bool (t ρ1 h') ⟨fun b h2 =>
      (b = true → @wO D (e ρ1 h2) ⟨fun y h3 => h3[h1.length]? = some (.lst acc) ∧ P (i + 1) (acc ++ [y]) (h3.set h1.length (.lst (acc ++ [y])))⟩ ⟨noX⟩) ∧ (b = false → h2[h1.length]? = some (.lst acc) ∧ P (i + 1) acc h2)⟩ ⟨noX⟩) :
    spec (match lcL j g t e h1.length ρ n 0 (h1 ++ [.lst []]) with | some h2 => .ok (.ref h1.length) h2 | none => .bad) R := by
  obtain ⟨h', e1, acc, _, e2, p⟩ := lcL_inv (j := j) (g := g) (t := t) (e := e) (k := h1.length) (ρ := ρ) (h := h1 ++ [.lst []]) n (fun i h => ∃ acc, acc.length ≤ i ∧ h[h1.length]? = some (.lst acc) ∧ P i acc h)
    ⟨[], by simp, push_new, init⟩ (fun h ⟨acc, _, e, p⟩ => (hend acc h p e).1) (fun i h hi ⟨acc, l, e0, p⟩ => by
      obtain ⟨d, ρ1, h', a1, a2, a3⟩ := hit i acc h hi p e0
      obtain ⟨b, h2, b1, b2⟩ := spec.ex a3
      refine ⟨d, ρ1, h', b, h2, a1, a2, b1, ?_⟩
      cases b with
      | false => exact .inl ⟨rfl, acc, by omega, b2.2 rfl⟩
      | true =>
        obtain ⟨y, h3, c1, c2, c3⟩ := spec.ex (b2.1 rfl)
        exact .inr ⟨rfl, y, h3, acc, c1, c2, by omega, acc ++ [y], by simp; omega, set_get c2, c3⟩)
  rw [e1]
  exact spec.of rfl (hend acc h' p e2).2
/-- whose body leaves the heap alone -/
theorem spec.lcp {j : MIt} {g : MG} {t : MT} {e : ME} {ρ : Rho} {h1 : Hh} {n : Nat} {items : List D} {R : D → Hh → Prop} (f : D → Option D) (en : n = items.length) (hn : n < sizeLine)
    (hat : ∀ acc i, j.at_ i (h1 ++ [.lst acc]) = some items[i]?)
    (hb : ∀ d ∈ items, ∀ acc, ∃ ρ1, g d ρ (h1 ++ [.lst acc]) = some (ρ1, h1 ++ [.lst acc]) ∧ match f d with
      | none => t ρ1 (h1 ++ [.lst acc]) = .ok false (h1 ++ [.lst acc])
      | some y => t ρ1 (h1 ++ [.lst acc]) = .ok true (h1 ++ [.lst acc]) ∧ e ρ1 (h1 ++ [.lst acc]) = .ok y (h1 ++ [.lst acc])) (q : R (.ref h1.length) (h1 ++ [.lst (items.filterMap f)])) :
    spec (match lcL j g t e h1.length ρ n 0 (h1 ++ [.lst []]) with | some h2 => .ok (.ref h1.length) h2 | none => .bad) R := by
  subst en
  rw [lcL_pure f hn hat hb]
  exact spec.of rfl q
/-- the same over data -/
theorem spec.lct {α : Type} {j : MIt} {g : MG} {t : MT} {e : ME} {ρ : Rho} {h1 : Hh} {n : Nat} {xs : List α} {enc : α → D} {R : D → Hh → Prop} (f : α → Option D) (en : n = xs.length) (hn : n < sizeLine)
    (hat : ∀ acc i, j.at_ i (h1 ++ [.lst acc]) = some (xs.map enc)[i]?)
    (hb : ∀ x ∈ xs, ∀ acc, ∃ ρ1, g (enc x) ρ (h1 ++ [.lst acc]) = some (ρ1, h1 ++ [.lst acc]) ∧ match f x with
      | none => t ρ1 (h1 ++ [.lst acc]) = .ok false (h1 ++ [.lst acc])
      | some y => t ρ1 (h1 ++ [.lst acc]) = .ok true (h1 ++ [.lst acc]) ∧ e ρ1 (h1 ++ [.lst acc]) = .ok y (h1 ++ [.lst acc])) (q : R (.ref h1.length) (h1 ++ [.lst (xs.filterMap f)])) :
    spec (match lcL j g t e h1.length ρ n 0 (h1 ++ [.lst []]) with | some h2 => .ok (.ref h1.length) h2 | none => .bad) R := by
  subst en
  refine spec.lc (fun i acc h => h = h1 ++ [.lst acc] ∧ acc = (xs.take i).filterMap f) hn ⟨rfl, by simp⟩ ?_ ?_
  · rintro acc _ ⟨rfl, rfl⟩ _
    refine ⟨by rw [hat]; simp, ?_⟩
    rw [List.take_length]
    exact q
  · rintro i acc _ hi ⟨rfl, e1⟩ _
    have ei : xs[i]? = some xs[i] := List.getElem?_eq_getElem hi
    obtain ⟨ρ1, e2, e3⟩ := hb xs[i] (List.getElem_mem hi) acc
    refine ⟨enc xs[i], ρ1, _, by rw [hat, List.getElem?_map, ei]; rfl, e2, ?_⟩
    have et : xs.take (i + 1) = xs.take i ++ [xs[i]] := by rw [List.take_add_one, ei]; rfl
    cases ef : f xs[i] with
    | none =>
      rw [ef] at e3
      simp only at e3
      rw [e3, wO_ok]
      exact ⟨fun z => (by cases z), fun _ => ⟨push_new, rfl, by rw [et, List.filterMap_append, e1]; simp [ef]⟩⟩
    | some y =>
      rw [ef] at e3
      simp only at e3
      rw [e3.1, wO_ok]
      refine ⟨fun _ => ?_, fun z => by cases z⟩
      rw [e3.2, wO_ok]
      refine ⟨push_new, ?_, by rw [et, List.filterMap_append, e1]; simp [ef]⟩
      rw [List.set_append_right _ _ (Nat.le_refl _)]
      simp
/-! ### zip, locked dicts -/
section
variable {h h' : Hh} {d e : D} {xs ys : List D} {i n : Nat}
end
/-! ### numbers -/
theorem mulOk_b {i j : Int} (hi : -(10 ^ 300) < i ∧ i < 10 ^ 300) (hj : -(10 ^ 300) < j ∧ j < 10 ^ 300) : mulOk i j = true := by
  have key : ∀ i : Int, -(10 ^ 300) < i ∧ i < 10 ^ 300 → i.natAbs.log2 < 1000 := by
    intro i hi
    by_cases z : i.natAbs = 0
    · rw [z]; decide
    · rw [Nat.log2_lt z]
      have : i.natAbs < 10 ^ 300 := by omega
      exact Nat.lt_of_lt_of_le this (by decide +kernel)
  exact mulOk_w (by have := key i hi; have := key j hj; omega)
end PI
/-! Helps: tables whose keys are ints. -/
namespace PI
open PySem PySem.Spec L2
open PyProof.Rows hiding St
open PySem.W (dataLe alike)
section
variable {h : Hh} {r : Nat} {u : Int} {t : List (Int × Int)}
end
end PI
/-! Helps: instances, things of unlike kinds, typed things. -/
namespace PI
open PySem PySem.Spec L2
open PyProof.Rows hiding St
section
variable {ρ : Rho} {h h1 : Hh} {C : Addr} {f m : Str} {n i : Nat} {g : FnM} {a o v : ME} {ma : MA} {op : G2}
/-! ### typed things: scalars, tuples of such, lists of anything -/
inductive Dt (h : Hh) : D → Prop
  | non : Dt h .non
  | bl (b : Bool) : Dt h (.bl b)
  | int {i : Int} : -(10 ^ 15) ≤ i ∧ i ≤ 10 ^ 15 → Dt h (.int i)
  | str {s : Str} : s.length ≤ 1000 → Dt h (.str s)
  | tup {xs : List D} : xs.length ≤ 10000 → (∀ x ∈ xs, Dt h x) → Dt h (.tup xs)
  | lst {i : Nat} {xs : List D} : h[i]? = some (.lst xs) → Dt h (.ref i)
def isStr (s : Str) : D → Bool
  | .str t => decide (t = s)
  | _ => false
def inStrs (ss : List Str) : D → Bool
  | .str t => decide (t ∈ ss)
  | _ => false
theorem isStr_iff {s : Str} {d : D} : isStr s d = true ↔ d = .str s := by
  cases d <;> simp [isStr]
theorem isStr_str {s t : Str} : isStr s (.str t) = decide (t = s) := rfl
theorem eqF_str {d : D} {s : Str} (T : Dt h d) : eqF d (.str s) h = some (isStr s d) := by
  cases T with
  | lst e => simp [eqF, scalE, kdF, e, isStr]
  | str l => simp [eqF, scalE, isStr]; rw [Bool.eq_iff_iff]; simp
  | _ => simp [eqF, scalE, kdF, isStr]
theorem oEqF_str {d : D} {s : Str} (T : Dt h d) : oEqF d (.str s) h = some (.bl (isStr s d), h) := by
  simp [oEqF, eqF_str T]
theorem eqF_strs {d : D} {s : Str} (T : Dt h d) : eqF (.str s) d h = some (isStr s d) := by
  cases T with
  | lst e => simp [eqF, scalE, kdF, e, isStr]
  | str l =>
    simp [eqF, scalE, isStr]
    rw [Bool.eq_iff_iff]
    simp
    exact eq_comm
  | _ => simp [eqF, scalE, kdF, isStr]
theorem inF_strs {d b : D} {ss : List Str} (T : Dt h d) (e : seqD h b = some (ss.map D.str)) : inF d b h = some (inStrs ss d) := by
  unfold inF
  rw [e]
  dsimp only
  have h1 : ((ss.map D.str).all fun x => (eqF x d h).isSome) = true := by
    rw [List.all_eq_true]
    intro x hx
    obtain ⟨s, hs, rfl⟩ := List.mem_map.mp hx
    rw [eqF_strs T]; rfl
  rw [if_pos h1]
  congr 1
  rw [Bool.eq_iff_iff, List.any_eq_true]
  constructor
  · rintro ⟨x, hx, e⟩
    obtain ⟨s, hs, rfl⟩ := List.mem_map.mp hx
    rw [eqF_strs T] at e
    have e : isStr s d = true := e
    rw [isStr_iff] at e
    subst e
    simpa [inStrs] using hs
  · intro e
    cases d with
    | str t =>
      have ht : t ∈ ss := by simpa [inStrs] using e
      exact ⟨.str t, List.mem_map.mpr ⟨t, ht, rfl⟩, by rw [eqF_strs T]; simp [isStr]⟩
    | _ => cases e
theorem oInF_strs {d b : D} {ss : List Str} (T : Dt h d) (e : seqD h b = some (ss.map D.str)) : oInF d b h = some (.bl (inStrs ss d), h) := by
  simp [oInF, inF_strs T e]
theorem oNotInF_strs {d b : D} {ss : List Str} (T : Dt h d) (e : seqD h b = some (ss.map D.str)) : oNotInF d b h = some (.bl (!inStrs ss d), h) := by
  simp [oNotInF, inF_strs T e]
theorem oEqF_lst {a b : Nat} {xs : List D} (ea : h[a]? = some (.lst xs)) (eb : h[b]? = some (.lst [])) : oEqF (.ref a) (.ref b) h = some (.bl xs.isEmpty, h) := by
  have e : eqF (.ref a) (.ref b) h = none := by simp [eqF, scalE, kdF, ea, eb]
  have e2 : emF (.ref a) (.ref b) h = some xs.isEmpty := by simp [emF, seqD, kdF, ea, eb]
  simp [oEqF, e, e2]
theorem oEqF_int {i j : Int} : oEqF (.int i) (.int j) h = some (.bl (i == j), h) := rfl
theorem oNeF_int {i j : Int} : oNeF (.int i) (.int j) h = some (.bl (!(i == j)), h) := rfl
end
end PI
/-! Exceptions of own classes whose __init__ says super().__init__('..') and self.f = x: raised, caught, read. -/
namespace PI
open PySem PySem.Spec L2
open PyProof.Rows hiding St

section
open PySem.W PySem.Calls
variable {prog : Program} {w : World} {A : Around} {E : Value → Shared → Prop} {h : Heap} {g : Array GenState} {d : Drawn} {t : Nat} {os : OsState}
variable {nm q : Str} {C N : Addr} {bs bm bmB : List Value} {hdct : Bool} {sn : List Str} {sub : List Value} {ab : Bool} {col : Option Bool} {dd : Option Addr} {k0 k1 k2 k3 k5 : Option Value} {B newId initId : String}
theorem sup_call (F : ExcBaseFacts B newId initId bmB) {u e t0 : Addr} {rest : List Value} {Q : Value → Shared → Prop}
    (hC : h.get? C = some (excClassObj nm q C N bs bm hdct sn sub ab col dd k0 k1 k2 k3 k5 newId)) (he : h.get? e = some (PySem.HandSPX.excO C t0)) (hu : h.get? u = some (kxs_mw initId e)) (hrest : rest.length ≤ sizeLine)
    (hq : ∀ h' t1, (∀ b o, b ≠ e → h.get? b = some o → h'.get? b = some o) → h'.get? e = some (PySem.HandSPX.excO C t1) → Q .none ⟨h', g, d, t, os⟩) :
    wpAny (model prog w) A (call (.ref u) rest) Q E ⟨h, g, d, t, os⟩ := by
  refine wpAny_call (codeAny_of_tree ?_)
  show wpAny _ A.in1 (callAny (.ref u) ⟨rest, []⟩) _ _ _
  simp only [callAny]
  refine wpAny_bind (wpAny_load hu ?_)
  simp only [kxs_mw, show (Value.type "method-wrapper" == Value.type "method" || Value.type "method-wrapper" == Value.type "builtin_function_or_method" || Value.type "method-wrapper" == Value.type "method-wrapper") = true by decide, if_true]
  refine KFB.if_so (by decide) ?_
  refine wpAny_bind (check_bound_init F.toExcCallFacts hC he rfl ?_)
  refine wpAny_bind (wpAny_pure (wpAny_pure ?_))
  refine ⟨plainId_quiet F.init.plain _, codeAny_builtin F.initEntry ?_⟩
  exact exc_init_tree (cls := .ref C) (t0 := t0) (dv := none) (c2 := .none) (c3 := .none) (b4 := .bool false) he hrest fun h' k e' _ => hq h' _ k e'
end

def supPl : Sem Bool := (do return (← (pure (some false) : Sem (Option Bool))).getD true)
section
open PySem.W PySem.Calls
variable {prog : Program} {w : World} {A : Around} {R : Result → Shared → Prop} {K : PySem.W.Frag} {mg mb : Str → Option Value}
end

section
open PySem.W
variable {P : Program} {w : World} {K : PySem.W.Frag} {mg : Str → Option Value} {h : Heap}
end
section
variable {X : Cx} {ct : Ctb} {W : WX}
end
end PI
/-! Sets of keys; d.setdefault; dict comprehensions; three names at once; unreached expressions. -/
namespace PI
open PySem PySem.Spec L2
open PyProof.Rows hiding St
/-- where the law runs: its classes, the program, the world -/
structure Ev where
  cls : Str → Addr
  P : Program
  w : World
instance : CoeFun Ev (fun _ => Str → Addr) := ⟨Ev.cls⟩
section
variable {X : Cx} {ct : Ctb} {W : WX}
/-! ### sets -/
/-! ### is True, of anything -/
/-! ### d.setdefault(k, x) -/
/-! ### three names at once -/
end
/-! ### dict comprehensions -/
section
variable {X : Cx} {ct : Ctb} {W : WX}
end
end PI
/-! Helps: sets, dict comprehensions, exceptions with a field. -/
namespace PI
open PySem PySem.Spec L2
open PyProof.Rows hiding St
section
variable {ca : Ev} {ρ : Rho} {h h1 : Hh} {i j l : Nat} {o a k x : ME} {ma : MA} {mi : MI} {g : MG} {t : MT} {vs : List Nat} {c f : Str}
end
end PI
set_option maxHeartbeats 2000000
/-! Exceptions as values: made by position and by name, asked of their classes, read. -/
namespace PI
open PySem PySem.Spec L2
open PyProof.Rows hiding St
section
open PySem.W PySem.Calls PySem.HandSPX
variable {M : Model} {A : Around} {E : Value → Shared → Prop} {h : Heap} {g : Array GenState} {d : Drawn} {t : Nat} {os : OsState} {kw : List (Str × Value)}
variable {nm q : Str} {C N : Addr} {bs bm bmB : List Value} {hdct : Bool} {sn : List Str} {sub : List Value} {ab : Bool} {col : Option Bool} {dd : Option Addr} {k0 k1 k2 k3 k5 : Option Value} {B newId initId : String}
theorem kw_tc {rest : List Value} {Q : Unit → Shared → Prop} (hC : h.get? C = some (excClassObj nm q C N bs bm hdct sn sub ab col dd k0 k1 k2 k3 k5 newId)) (z : Q () ⟨h, g, d, t, os⟩) :
    wpAny M A (checkBuiltinCall "type.__call__" ⟨.ref C :: rest, kw⟩) Q E ⟨h, g, d, t, os⟩ := by
  have hT : (⟨h, g, d, t, os⟩ : Shared).TypeIs (.ref C) "type" := ⟨_, hC, rfl⟩
  have f3 := tc_sub
  simp only [checkBuiltinCall, tc_kind, tc_split]
  repeat (any_goals (first | assumption | with_reducible refine wpAny_loadPart_at hC ?_ | with_reducible refine wpAny_onRaise ?_ | with_reducible refine wpAny_map ?_ | wp_step))
theorem kw_newchk (F : ExcBaseFacts B newId initId bmB) (hT : ∀ X : String, bm.contains (.type X) = bmB.contains (.type X)) {rest : List Value} {Q : Unit → Shared → Prop}
    (hC : h.get? C = some (excClassObj nm q C N bs bm hdct sn sub ab col dd k0 k1 k2 k3 k5 newId)) (z : Q () ⟨h, g, d, t, os⟩) : wpAny M A (checkBuiltinCall newId ⟨.ref C :: rest, kw⟩) Q E ⟨h, g, d, t, os⟩ := by
  have hstar := F.noStar
  have hcont : (Value.ref C :: bm).contains (.type B) = true := by rw [List.contains_cons, hT, F.hasB, Bool.or_true]
  simp only [checkBuiltinCall, F.newKind, F.newSplit, F.newRow]
  repeat (first | refine wpAny_loadPart_at hC ?_ | (refine wpAny_isSubtype_exc hC ?_; rw [hcont]) | refine wpAny_staticBase_exc hC ?_ | refine wpAny_madeBy_exc hC ?_ | simp only [bne_self_eq_false, Bool.false_eq_true, if_false] | wp_step)
  exact z
end
section
open PySem.W PySem.Calls PySem.HandSPX
variable {prog : Program} {w : World} {A : Around} {E : Value → Shared → Prop} {R : Result → Shared → Prop} {h : Heap} {g : Array GenState} {d : Drawn} {t : Nat} {os : OsState} {kw : List (Str × Value)}
variable {nm q : Str} {C N : Addr} {bs bm bmB : List Value} {hdct : Bool} {sn : List Str} {sub : List Value} {ab : Bool} {col : Option Bool} {dd : Option Addr} {k0 k1 k2 k3 k5 : Option Value} {B newId initId : String}
theorem kw_new (F : ExcBaseFacts B newId initId bmB) (hT : ∀ X : String, bm.contains (.type X) = bmB.contains (.type X)) {rest : List Value}
    (hC : h.get? C = some (excClassObj nm q C N bs bm hdct sn sub ab col dd k0 k1 k2 k3 k5 newId))
    (z : R (.ok (.ret (.ref (h.objs.size + 1)))) ⟨(h.push (kdv_tup rest)).push (excO C h.objs.size), g, d, t, os⟩) (hrest : rest.length ≤ sizeLine) :
    codeAny (model prog w) A (.builtin newId ⟨.ref C :: rest, kw⟩) R ⟨h, g, d, t, os⟩ := by
  have hends := F.ends
  have c1 : (Value.ref C :: bm).contains (.type B) = true := by rw [List.contains_cons, hT, F.hasB, Bool.or_true]
  have c2 : (Value.ref C :: bm).contains (.type "AttributeError") = false := by rw [List.contains_cons, hT, F.noAttr]; rfl
  have c3 : (Value.ref C :: bm).contains (.type "NameError") = false := by rw [List.contains_cons, hT, F.noName]; rfl
  refine codeAny_builtinAt F.entry ?_
  unfold Builtin.«BaseException.__new__»
  refine PyProof.Rows.wpAt_bind ?_
  show PyProof.Rows.wpAt _ _ _ (stack >>= _) _ _ _
  refine PyProof.Rows.wpAt_bind (PyProof.Rows.wpAt_stack fun p below => wpAt_of_wpAny ?_)
  wp_walk
  refine wpAt_of_wpAny ?_
  rw [F.owner]
  repeat (first | with_reducible refine wpAny_madeHere_exc F.canon hC ?_ | with_reducible refine wpAny_loadPart_at hC ?_ | (with_reducible refine wpAny_isSubtype_exc hC ?_; first | rw [c1] | rw [c2] | rw [c3]) | wp_step)
  show R _ _
  rw [Heap.size_push]
  exact z
theorem kw_tycall (F : ExcBaseFacts B newId initId bmB) (hT : ∀ X : String, bm.contains (.type X) = bmB.contains (.type X)) {rest : List Value} {fI : Addr} {Q : Fin → Shared → Prop}
    (hC : h.get? C = some (excClassObj nm q C N bs bm hdct sn sub ab col dd k0 k1 k2 k3 k5 newId))
    (hi : Looks (model prog w) h (typeLookup (.ref C) "__init__") (some (.ref fI))) (hb : ∀ self, Looks (model prog w) h (bindSpecial (.ref fI) self) (.ref fI, [self])) (hrest : rest.length ≤ sizeLine)
    (hq : codeAny (model prog w) A (.call (.ref fI) ⟨.ref (h.objs.size + 1) :: rest, kw⟩)
      (fun r s' => match r with | .ok (.ret v) => v = .none ∧ Q (.done (.ret (.ref (h.objs.size + 1)))) s' | .ok _ => False | .error e => E e s') ⟨(h.push (kdv_tup rest)).push (excO C h.objs.size), g, d, t, os⟩) :
    wpAny (model prog w) A (Builtin.«type.__call__» ⟨.ref C :: rest, kw⟩) Q E ⟨h, g, d, t, os⟩ := by
  repeat (first | with_reducible refine wpAny_loadPart_at hC ?_ | with_reducible refine wpAny_madeBy_exc hC ?_ | wp_step)
  refine codeAny_call_builtin_code (Code.quiet_builtin _ F.quiet) (kw_newchk F hT hC ?_)
  refine kw_new F hT hC ?_ hrest
  show wpAny _ _ _ _ _ _
  have k : ∀ b o, h.get? b = some o → ((h.push (kdv_tup rest)).push (excO C h.objs.size)).get? b = some o := fun b o e => Heap.get?_push_of_some _ (Heap.get?_push_of_some _ e)
  have hC2 := k _ _ hC
  have hE : ((h.push (kdv_tup rest)).push (excO C h.objs.size)).get? (h.objs.size + 1) = some (excO C h.objs.size) := by heap_get
  have hcC : (Value.ref C :: bm).contains (.ref C) = true := by simp
  unfold isInstance
  repeat (first | with_reducible refine wpAny_loadPart_at hE ?_ | (with_reducible refine wpAny_isSubtype_exc hC2 ?_; rw [hcC]) | wp_step)
  show wpAny _ _ (typeLookup (.ref C) _) _ _ _
  refine (hi.keeps k).at ?_
  refine wpAny_holding (wpAny_bind (((hb (.ref (h.objs.size + 1))).keeps k).at ?_))
  refine wpAny_bind (wpAny_call (codeAny_mono hq fun r s' z => ?_))
  rcases r with e | (v | _ | _ | _) <;> first | exact z | exact z.elim | skip
  obtain ⟨rfl, z⟩ := z
  first
    | exact wpAny_pure (wpAny_pure z)
    | (wp_walk; exact z)
theorem kw_call (F : ExcBaseFacts B newId initId bmB) (hT : ∀ X : String, bm.contains (.type X) = bmB.contains (.type X)) {rest : List Value} {fI : Addr}
    (hC : h.get? C = some (excClassObj nm q C N bs bm hdct sn sub ab col dd k0 k1 k2 k3 k5 newId))
    (hi : Looks (model prog w) h (typeLookup (.ref C) "__init__") (some (.ref fI))) (hb : ∀ self, Looks (model prog w) h (bindSpecial (.ref fI) self) (.ref fI, [self])) (hrest : rest.length ≤ sizeLine)
    (hq : codeAny (model prog w) (A.under (.builtin "type.__call__" ⟨.ref C :: rest, kw⟩)) (.call (.ref fI) ⟨.ref (h.objs.size + 1) :: rest, kw⟩) (InitBack (h.objs.size + 1) R)
      ⟨(h.push (kdv_tup rest)).push (excO C h.objs.size), g, d, t, os⟩) :
    codeAny (model prog w) A (.call (.ref C) ⟨rest, kw⟩) R ⟨h, g, d, t, os⟩ := by
  have hTy : (⟨h, g, d, t, os⟩ : Shared).TypeIs (.ref C) "type" := ⟨_, hC, rfl⟩
  have f2 := tc_bind (.ref C)
  have f1 := tc_lookup
  refine codeAny_of_tree ?_
  show wpAny _ _ (callAny (.ref C) _) _ _ _
  repeat (any_goals (first | assumption | with_reducible refine wpAny_loadPart_at hC ?_ | wp_step))
  refine ⟨rfl, ?_⟩
  refine codeAny_call_builtin_at (Code.quiet_builtin _ (by decide +kernel)) entry_typeCall (kw_tc hC (kw_tycall F hT hC hi hb hrest ?_))
  refine codeAny_mono hq fun r s' z => ?_
  rcases r with e | (v | _ | _ | _) <;> exact z
end

/-! ### an __init__ with several fields -/
/-- self.f = p, p worth v -/
structure Fst where
  f : Str
  p : Str
  v : Value
  q6 : Pos
  q7 : Pos
  q8 : Pos
  q9 : Pos
abbrev Fst.s (r : Fst) : Stmt := .Assign [.Attribute (.Name "self" r.q6) r.f r.q7] (.Name r.p r.q8) r.q9
def fAdd (acc : List (Str × Value)) (rs : List Fst) : List (Str × Value) := rs.foldl (fun a r => (r.f, r.v) :: a) acc
theorem within_lk : ∀ (l : List (Str × Value)), Within (fun y => l.lookup y) (l.map (·.1)) := fun l y hy => by
  cases e : l.lookup y with
  | none => exact absurd e hy
  | some v =>
    clear hy
    induction l with
    | nil => cases e
    | cons p l ih =>
      obtain ⟨a, b⟩ := p
      rw [List.lookup_cons] at e
      split at e
      · rename_i h
        have : y = a := by simpa using h
        rw [this]
        exact List.mem_cons_self ..
      · exact List.mem_cons_of_mem _ (ih e)
theorem lk_put (f : Str) (v : Value) (l : List (Str × Value)) : (fun y => if y = f then some v else l.lookup y) = fun y => List.lookup y ((f, v) :: l) := by
  funext y
  rw [List.lookup_cons]
  by_cases h : y = f
  · simp [h]
  · have : (y == f) = false := by simpa using h
    rw [if_neg h, this]
section
open PySem.W PySem.Calls
variable {prog : Program} {w : World} {A : Around} {K : PySem.W.Frag}
theorem sup_more {c : Code} {env : Env} {Q : Flow → Shared → Prop} {E : Value → Shared → Prop} {C e dx : Addr} {fv : Array Value} {cd : ClassData} {m : Str → Option Value} {g : Array GenState} {d : Drawn} {os : OsState}
    (hcls : clsIn K C = some cd) (hm : PySem.HandSPX.refsVE cd.mro = true) (hh : cd.hasDict = true) (hsa : findIn K (.ref C) "__setattr__" = some (some (.builtin "object.__setattr__")))
    (e5 : env.scope.kind = .function) (e3 : env.kindOf "self" = some .local) (m1 : m "self" = some (.ref e)) (hLd : env.locals ≠ dx) (hed : e ≠ dx) (hK : K.lookup dx = none) :
    ∀ (rs : List Fst) (acc : List (Str × Value)) (h : Heap) (t : Nat), K.In h → h.Ns env.locals m → h.get? e = some { cls := .ref C, dict := some dx, data := .fields fv } → h.Ns1 dx (fun y => acc.lookup y) →
      (∀ r ∈ rs, findIn K (.ref C) r.f = some none ∧ env.kindOf r.p = some .local ∧ m r.p = some r.v ∧ (r.p == ("__debug__" : Str)) = false) → acc.length + rs.length ≤ 900 →
      (∀ h' t', (∀ b o, b ≠ dx → h.get? b = some o → h'.get? b = some o) → h'.Ns1 dx (fun y => (fAdd acc rs).lookup y) → _root_.PySem.wpAt (model prog w) A c (execs [] env) Q E ⟨h', g, d, t', os⟩) →
      _root_.PySem.wpAt (model prog w) A c (execs (rs.map Fst.s) env) Q E ⟨h, g, d, t, os⟩
  | [], acc, h, t, X, hn, he, hd, hr, hl, hq => hq h t (fun _ _ _ z => z) hd
  | r :: rs, acc, h, t, X, hn, he, hd, hr, hl, hq => by
    obtain ⟨a1, a2, a3, a4⟩ := hr r List.mem_cons_self
    obtain ⟨oD, _, _, hoD, _, _⟩ := hd.count (within_lk acc)
    show _root_.PySem.wpAt _ _ _ (execs (Fst.s r :: rs.map Fst.s) env) _ _ _
    refine ks_wpAt_execs_cons (ks_wpAt_Assign_Attr (wpAt_of_wpAny (PySem.ESX.ldL hn a3 (PySem.ESX.ldL hn m1 ?_ e5 e3 rfl) e5 a2 a4)) rfl)
    refine set_plain X (ox := { cls := .ref C, dict := some dx, data := .fields fv }) (od := some oD) ⟨he, rfl, rfl, hoD⟩ hsa ?_
    have hl : acc.length + (rs.length + 1) ≤ 900 := hl
    refine PySem.OEX.osa_old X he hd (within_lk acc) (by rw [List.length_map]; omega) hcls hm hh a1 (fun h' tk' k hn' => ?_)
    rw [lk_put] at hn'
    obtain ⟨oL, es, ep, hL, rr⟩ := hn
    refine sup_more hcls hm hh hsa e5 e3 m1 hLd hed hK rs _ h' tk' (fun b o z => k b o (fun y => by rw [y, hK] at z; cases z) (X b o z)) ⟨oL, es, ep, k _ _ hLd hL, rr⟩ (k _ _ hed he) hn' (fun r hr' => hr r (List.mem_cons_of_mem _ hr')) (by simp only [List.length_cons]; omega) (fun h2 t2 k2 n2 => ?_)
    exact hq h2 t2 (fun b o z y => k2 b o z (k b o z y)) n2
variable {R : Result → Shared → Prop} {mg mb : Str → Option Value}
abbrev supBN (msg : Str) (j : Nat) (q0 q1 q2 q3 q4 q5 : Pos) (r0 : Fst) (rs : List Fst) : List Stmt :=
  .Expr (.Call (.Attribute (.Call (.Name "super" q0) [] [] q1) "__init__" q2) [.Constant (.str msg) j q3] [] q4) q5 :: Fst.s r0 :: rs.map Fst.s
theorem sup_initN {args : Args} {binds : List (Str × Value)} {r0 : Fst} {rs : List Fst} {C fI cc cda e t0 : Addr} {fd : FuncData} {B newId initId : String} {bmB : List Value} {oc ccl cl : Value} {od cdd cld : Option Addr} {osl ccs csl : Array (Option Value)} {cd : ClassData} {vs : Array Value} {file : Str} {tf : Tok} {ar : Arg}
    {msg : Str} {j : Nat} {q0 q1 q2 q3 q4 q5 : Pos} {qual : Str} {params : Arguments} {scope : Scope} {dV kV doc pm ct : Value} {an : Option Addr} {s : Shared}
    (X : K.In s.heap) (hlim : s.heap.NoLimit) (hg : s.heap.Ns mainGlobals mg) (hbl : s.heap.Ns builtinsNs mb) (hroom : A.depth < recursionLimit)
    (F : ExcBaseFacts B newId initId bmB) (KF : KxsFacts B initId)
    (ho : K.lookup fI = some ⟨oc, od, .func (ksFn "__init__" qual params (supBN msg j q0 q1 q2 q3 q4 q5 r0 rs) scope dV kV doc pm an (.ref cda) ct cc), osl⟩) (hcd : codeIn K (.ref cda) qual = true)
    (hcode : K.lookup cda = some ⟨ccl, cdd, .fields vs, ccs⟩) (hvs : vs[2]? = some (.str file tf)) (hfile : ((prog.main.file : Str) == file) = true)
    (hcell : K.lookup cc = some ⟨cl, cld, .cell (some (.ref C)), csl⟩) (q : excInitIn K C bmB newId = true) (hcls : clsIn K C = some cd) (hsub : mroIn K C (.ref C) = some true) (hB : subIn K (.ref C) (.type B) = some true)
    (hop : nsIn K cStatics "thirdparty.any" = some none) (hsi : ks_superIn K C C "__init__" = some (some (.builtin initId))) (hsa : findIn K (.ref C) "__setattr__" = some (some (.builtin "object.__setattr__")))
    (hm : PySem.HandSPX.refsVE cd.mro = true) (hhd : cd.hasDict = true) (haf : ∀ r ∈ r0 :: rs, findIn K (.ref C) r.f = some none) (hb1 : binds.reverse.lookup ("self" : Str) = some (Value.ref e)) (hb2 : ∀ r ∈ r0 :: rs, binds.reverse.lookup r.p = some r.v) (hb3 : ∀ x ∈ binds, scope.names.lookup x.1 = some .local) (hrl : rs.length ≤ 800) (hsup : mg "super" = none) (hbs : mb "super" = some (.type "super")) (htop : (prog.main.scope.names.lookup ("super" : Str)).isSome = false)
    (hks : scope.names.lookup ("super" : Str) = some .globalImplicit) (hkc : scope.names.lookup ("__class__" : Str) = some .free) (hk1 : scope.names.lookup ("self" : Str) = some .local) (hk2 : ∀ r ∈ r0 :: rs, scope.names.lookup r.p = some .local)
    (hp : (params.posonlyargs ++ params.args).head? = some ar) (har : ar.arg = "self") (hpd : ∀ r ∈ r0 :: rs, (r.p == ("__debug__" : Str)) = false)
    (hnc : ∀ x ∈ scope.names, x.2 ≠ .cell) (hco : scope.isCoroutine = false) (hgen : scope.isGenerator = false) (hkd : scope.kind = .function)
    (hbind : BindsTo s (ksFn "__init__" qual params (supBN msg j q0 q1 q2 q3 q4 q5 r0 rs) scope dV kV doc pm an (.ref cda) ct cc) args binds)
    (hev : ∀ env : Env, eval (.Call (.Attribute (.Call (.Name "super" q0) [] [] q1) "__init__" q2) [.Constant (.str msg) j q3] [] q4) env = (do
      let ov ← attributeBase (.Call (.Name "super" q0) [] [] q1) "__init__" env (eval (.Call (.Name "super" q0) [] [] q1) env)
      standAt q2.atName
      let (f, first) ← holding [ov] (getMethod ov "__init__" supPl)
      callWith q4 f first (backTo q4 (starEach [.Constant (.str msg) j q3] env)) []))
    (hK : K.lookup e = none) (he : s.heap.get? e = some (PySem.HandSPX.excO C t0))
    (hR : ∀ h' tk' dx t1, (∀ b o, b ≠ e → s.heap.get? b = some o → h'.get? b = some o) → s.heap.objs.size ≤ dx → dx ≠ e → h'.get? e = some { cls := .ref C, dict := some dx, data := .fields #[.ref t1, .none, .none, .none, .bool false, .none] } →
      h'.Ns1 dx (fun y => (fAdd [(r0.f, r0.v)] rs).lookup y) → R (.ok (.ret .none)) { s with heap := h', toks := tk' }) :
    codeAny (model prog w) A (.call (.ref fI) args) R s := by
  obtain ⟨nm, N, qn, bs, bm, hdct, sn, sub, ab, col, dd, k0, k1, k2, k3, k5, hC, hT⟩ := excInit_of X q
  refine ks_codeAny_call_defAt (fd := ksFn "__init__" qual params (supBN msg j q0 q1 q2 q3 q4 q5 r0 rs) scope dV kV doc pm an (.ref cda) ct cc) (body := supBN msg j q0 q1 q2 q3 q4 q5 r0 rs) (binds := binds)
    hroom (X _ _ ho) rfl hlim (codeRec_of X hcd) rfl hbind hnc hb3 (fun h₀ hnsA k₀ => ?_) hco hgen hkd
  · show _root_.PySem.wpAt (model prog w) (A.deeper (ksEnv qual scope s.heap.objs.size fI (.ref cda) cc)) (.func (supBN msg j q0 q1 q2 q3 q4 q5 r0 rs) (ksEnv qual scope s.heap.objs.size fI (.ref cda) cc)) (execs (supBN msg j q0 q1 q2 q3 q4 q5 r0 rs) (ksEnv qual scope s.heap.objs.size fI (.ref cda) cc)) _ _ _
    have X0 : K.In h₀ := X.keeps k₀
    have hns : h₀.Ns (ksEnv qual scope s.heap.objs.size fI (.ref cda) cc).locals (fun x => binds.reverse.lookup x) := hnsA
    have m1 : (fun x => binds.reverse.lookup x) "self" = some (.ref e) := hb1
    have m2 : ∀ r ∈ r0 :: rs, (fun x => binds.reverse.lookup x) r.p = some r.v := hb2
    generalize hmm : (fun x => binds.reverse.lookup x) = m at hns m1 m2
    generalize henv : ksEnv qual scope s.heap.objs.size fI (.ref cda) cc = env at hns ⊢
    have e1 : env.kindOf "super" = some .globalImplicit := by subst henv; exact hks
    have e2 : env.kindOf "__class__" = some .free := by subst henv; exact hkc
    have e3 : env.kindOf "self" = some .local := by subst henv; exact hk1
    have e4 : ∀ r ∈ r0 :: rs, env.kindOf r.p = some .local := by subst henv; exact hk2
    have e5 : env.scope.kind = .function := by subst henv; exact hkd
    have Xk : ∀ {h' : Heap}, (∀ b o, h₀.get? b = some o → h'.get? b = some o) → K.In h' := fun k => X0.keeps k
    obtain ⟨oD, hD1, hD2⟩ : ∃ oD, h₀.get? C = some oD ∧ oD.data = .cls cd := by
      unfold clsIn at hcls
      split at hcls
      · rename_i c d cd' sl ho'
        cases hcls
        exact ⟨_, X0 _ _ ho', rfl⟩
      · cases hcls
    have he0 := k₀ _ _ he
    have I0 : InstAt h₀ e (PySem.HandSPX.excO C t0) C none := ⟨he0, rfl, rfl, trivial⟩
    have hC0 := k₀ _ _ hC
    have hne : e ≠ C := ks_ne X0 I0 hcls
    refine ks_wpAt_execs_cons (ks_wpAt_Expr_any (ks_wpAt_MethodCall ?_ (hev _)) (by unfold interactive; rw [e5]; rfl) rfl)
    refine ks_wpAt_super_base (env := env) (vs := vs) (file := file) (tf := tf) (ar := ar) e1 e2 rfl (by subst henv; rfl) (X0 _ _ ho) rfl hp (by subst henv; rfl) (X0 _ _ hcode) rfl hvs hfile htop ?_
    refine ks_loadName_global e5 e1 (loadGlobal_builtin (env := env) (by subst henv; exact hg.keeps k₀) hsup (by subst henv; exact hbl.keeps k₀) hbs ⟨rfl, ?_⟩)
    refine wpAny_loadName_free e5 e2 (by subst henv; rfl) ⟨_, X0 _ _ hcell, rfl⟩ ?_
    rw [har]
    refine wpAny_loadName_local e5 e3 hns m1 ?_
    refine ks_wpAny_isType_cls hD1 hD2 ⟨rfl, ?_⟩
    obtain ⟨hh, g, d, t, os⟩ := s
    refine ks_wpAny_call_super hD1 hD2 he0 rfl (fun c z => by cases z) (looks_mroIn X0 hsub) (fun h1 hso kk1 => ?_)
    have X1 := X0.keeps kk1
    have he1 := kk1 _ _ he0
    have I1 : InstAt h1 e (PySem.HandSPX.excO C t0) C none := ⟨he1, rfl, rfl, trivial⟩
    refine kxs_getMethod KF hso (looks_opaque X1 hop) (l₀ := cd.mro) (fun A Q E s k q => wpAny_bind ((looks_clsIn X1 hcls) A _ E s k (wpAny_pure q))) rfl X1 ?_ (I1.type.andThen (looks_subIn X1 hB)) hne rfl ?_
    · unfold ks_superIn at hsi
      rw [hcls] at hsi
      exact hsi
    have kk2 : ∀ b o, h1.get? b = some o → (h1.push (kxs_mw initId e)).get? b = some o := fun b o z => Heap.get?_push_of_some _ z
    have hu2 : (h1.push (kxs_mw initId e)).get? h1.objs.size = some (kxs_mw initId e) := Heap.get?_push_size _ rfl
    refine kxs_callWith (i := initId) (x := e) rfl (evalArgs_plain (Calls.spliced_cons ?_))
    refine Calls.Constant_str (pos := q3) (k := j) (Calls.spliced_nil ⟨hu2, ?_⟩)
    refine sup_call F (kk2 _ _ (kk1 _ _ hC0)) (kk2 _ _ he1) hu2 (by show 1 ≤ sizeLine; rw [sizeLine_eq]; omega) (fun h3 t1 k3 he3 => ?_)
    have k3' : ∀ b o, b ≠ e → h₀.get? b = some o → h3.get? b = some o := fun b o z y => k3 b o z (kk2 _ _ (kk1 _ _ y))
    have X3 : K.In h3 := fun b o z => k3' b o (fun y => by
      rw [y, hK] at z
      cases z) (X0 _ _ z)
    have eL : env.locals = hh.objs.size := by subst henv; rfl
    have hLe : env.locals ≠ e := by
      rw [eL]
      exact Ne.symm (Nat.ne_of_lt (Heap.lt_size he))
    have hns3 : h3.Ns env.locals m := by
      obtain ⟨oL, es, ep, hL, r⟩ := hns
      exact ⟨oL, es, ep, k3' _ _ hLe hL, r⟩
    have sz3 : hh.objs.size < h3.objs.size := by
      obtain ⟨oL, es, ep, hL, r⟩ := hns3
      rw [← eL]
      exact Heap.lt_size hL
    show _root_.PySem.wpAt _ _ _ _ _ _ _
    have hc0 := List.mem_cons_self (a := r0) (l := rs)
    refine ks_wpAt_execs_cons (ks_wpAt_Assign_Attr (wpAt_of_wpAny (PySem.ESX.ldL hns3 (m2 r0 hc0) (PySem.ESX.ldL hns3 m1 ?_ e5 e3 rfl) e5 (e4 r0 hc0) (hpd r0 hc0))) rfl)
    refine set_plain X3 (ox := PySem.HandSPX.excO C t1) (od := none) ⟨he3, rfl, rfl, trivial⟩ hsa ?_
    refine PySem.HandSPX.exc_osa X3 he3 hcls hm hhd (haf r0 hc0) (fun h4 tk' dx k4 d1 d2 e4' n4 => ?_)
    show _root_.PySem.wpAt _ _ _ _ _ _ _
    have hKd : K.lookup dx = none := by
      cases z : K.lookup dx with
      | none => rfl
      | some o => exact absurd (Nat.lt_of_lt_of_le (Heap.lt_size (X3 _ _ z)) d1) (Nat.lt_irrefl _)
    have X4 : K.In h4 := fun b o z => k4 b o (fun y => by rw [y, hK] at z; cases z) (X3 _ _ z)
    have hLd : env.locals ≠ dx := fun z => by
      rw [eL] at z
      rw [z] at sz3
      exact absurd (Nat.lt_of_lt_of_le sz3 d1) (Nat.lt_irrefl _)
    have hns4 : h4.Ns env.locals m := by
      obtain ⟨oL, es, ep, hL, r⟩ := hns3
      exact ⟨oL, es, ep, k4 _ _ hLe hL, r⟩
    have n4 : h4.Ns1 dx (fun y => List.lookup y [(r0.f, r0.v)]) := by
      rw [← lk_put r0.f r0.v []]
      exact n4
    refine sup_more hcls hm hhd hsa e5 e3 m1 hLd (Ne.symm d2) hKd rs _ h4 tk' X4 hns4 e4' n4 (fun r hr => ⟨haf r (List.mem_cons_of_mem _ hr), e4 r (List.mem_cons_of_mem _ hr), m2 r (List.mem_cons_of_mem _ hr), hpd r (List.mem_cons_of_mem _ hr)⟩) (by simp only [List.length_cons, List.length_nil]; omega) (fun h5 t5 k5 n5 => ?_)
    show _root_.PySem.wpAt _ _ _ _ _ _ _
    refine wpAt_of_wpAny (wpAny_execs_nil ?_)
    exact hR h5 t5 dx t1 (fun b o z y => k5 b o (fun q => by
      have := k₀ b o y
      have := Heap.lt_size y
      rw [q] at this
      exact absurd (Nat.lt_trans this (Nat.lt_of_lt_of_le sz3 d1)) (Nat.lt_irrefl _)) (k4 b o z (k3' b o z (k₀ b o y)))) (Nat.le_trans (Nat.le_of_lt sz3) d1) d2 (k5 _ _ (Ne.symm d2) e4') n5
end
end PI
namespace PI
open PySem PySem.Spec L2
open PyProof.Rows hiding St
/-- an own exception class with its own __init__, called so: n arguments (in the order of the call) laid by ar, the fields ns (the latest first) worth those at pl -/
structure ExcM (P : Program) (w : World) (K : PySem.W.Frag) (mg : Str → Option Value) (x : Str) (n : Nat) (ar : List Value → Args) (ns : List Str) (pl : List Nat) (C : Addr) : Prop where
  g : mg x = some (.ref C)
  k : PySem.W.keepIn K (.ref C) = true
  run : ∀ {A : Around} {R : Result → Shared → Prop} {s : Shared} {us : List Value} {mb : Str → Option Value}, us.length = n → K.In s.heap → s.heap.NoLimit → s.heap.Ns mainGlobals mg → s.heap.Ns builtinsNs mb → mb "super" = some (.type "super") → Room 2 A →
    (∀ h' tk' dx e t1, s.heap.objs.size ≤ e → (∀ b o, s.heap.get? b = some o → h'.get? b = some o) → s.heap.objs.size ≤ dx → dx ≠ e → h'.get? e = some { cls := .ref C, dict := some dx, data := .fields #[.ref t1, .none, .none, .none, .bool false, .none] } →
      h'.Ns1 dx (fun y => (ns.zip (perm pl us)).lookup y) → R (.ok (.ret (.ref e))) { s with heap := h', toks := tk' }) →
    codeAny (model P w) A (.call (.ref C) (ar us)) R s
section
open PySem.W
variable {P : Program} {w : World} {K : PySem.W.Frag} {mg : Str → Option Value} {h : Heap}
theorem excM_mk {C fI cc cda : Addr} {B newId initId : String} {bmB : List Value} {oc ccl cl : Value} {od cdd cld : Option Addr} {osl ccs csl : Array (Option Value)} {cd : ClassData} {vs : Array Value} {file : Str} {tf : Tok} {arg : Arg} {st : Stmt}
    {x msg : Str} {j : Nat} {q0 q1 q2 q3 q4 q5 : Pos} {qual : Str} {kV doc pm ct : Value} {an : Option Addr} {n : Nat} {ar : List Value → Args} {ns : List Str} {pl : List Nat} {bs : List Value → List (Str × Value)} {f0 : List Value → Fst} {fr : List Value → List Fst}
    (X : K.In h) (G : h.Ns mainGlobals mg) (F : ExcBaseFacts B newId initId bmB) (KF : KxsFacts B initId)
    (oa : nsIn K mainGlobals x = some (some (.ref C))) (kC : keepIn K (.ref C) = true)
    (a : findIn K (.ref C) "__init__" = some (some (.ref fI))) (i : isFn K (.ref fI) = true)
    (ho : K.lookup fI = some ⟨oc, od, .func (ksFn "__init__" qual (defArgs st) (defBody st) (defScope st) .none kV doc pm an (.ref cda) ct cc), osl⟩) (hcd : codeIn K (.ref cda) qual = true)
    (hcode : K.lookup cda = some ⟨ccl, cdd, .fields vs, ccs⟩) (hvs : vs[2]? = some (.str file tf)) (hfile : ((P.main.file : Str) == file) = true)
    (hcell : K.lookup cc = some ⟨cl, cld, .cell (some (.ref C)), csl⟩) (q : excInitIn K C bmB newId = true) (hcls : clsIn K C = some cd) (hsub : mroIn K C (.ref C) = some true) (hB : subIn K (.ref C) (.type B) = some true)
    (hop : nsIn K cStatics "thirdparty.any" = some none) (hsi : ks_superIn K C C "__init__" = some (some (.builtin initId))) (hsa : findIn K (.ref C) "__setattr__" = some (some (.builtin "object.__setattr__")))
    (hm : PySem.HandSPX.refsVE cd.mro = true) (hhd : cd.hasDict = true) (hsup : nsIn K mainGlobals "super" = some none) (htop : (P.main.scope.names.lookup ("super" : Str)).isSome = false)
    (hks : (defScope st).names.lookup ("super" : Str) = some .globalImplicit) (hkc : (defScope st).names.lookup ("__class__" : Str) = some .free) (hk1 : (defScope st).names.lookup ("self" : Str) = some .local)
    (hp : ((defArgs st).posonlyargs ++ (defArgs st).args).head? = some arg) (har : arg.arg = "self")
    (hnc : ∀ x ∈ (defScope st).names, x.2 ≠ .cell) (hco : (defScope st).isCoroutine = false) (hgen : (defScope st).isGenerator = false) (hkd : (defScope st).kind = .function)
    (hbind : ∀ (kV doc pm : Value) (an : Option Addr) (cdv ct : Value) (cc : Addr) (e : Value) (us : List Value), us.length = n → bindArgs (ksFn "__init__" qual (defArgs st) (defBody st) (defScope st) .none kV doc pm an cdv ct cc) ⟨e :: (ar us).pos, (ar us).kw⟩ = pure ((("self" : Str), e) :: bs us))
    (hus : ∀ us : List Value, us.length = n → (ar us).pos.length ≤ 100 ∧ (fr us).length ≤ 800 ∧ defBody st = supBN msg j q0 q1 q2 q3 q4 q5 (f0 us) (fr us) ∧ fAdd [((f0 us).f, (f0 us).v)] (fr us) = ns.zip (perm pl us) ∧
      (∀ e : Value, ((("self" : Str), e) :: bs us).reverse.lookup ("self" : Str) = some e) ∧ (∀ x ∈ bs us, (defScope st).names.lookup x.1 = some .local) ∧
      ∀ r ∈ f0 us :: fr us, (∀ e : Value, ((("self" : Str), e) :: bs us).reverse.lookup r.p = some r.v) ∧ findIn K (.ref C) r.f = some none ∧ (defScope st).names.lookup r.p = some .local ∧ (r.p == ("__debug__" : Str)) = false)
    (hev : ∀ env : Env, eval (.Call (.Attribute (.Call (.Name "super" q0) [] [] q1) "__init__" q2) [.Constant (.str msg) j q3] [] q4) env = (do
      let ov ← attributeBase (.Call (.Name "super" q0) [] [] q1) "__init__" env (eval (.Call (.Name "super" q0) [] [] q1) env)
      standAt q2.atName
      let (f, first) ← holding [ov] (getMethod ov "__init__" supPl)
      callWith q4 f first (backTo q4 (starEach [.Constant (.str msg) j q3] env)) [])) : ExcM P w K mg x n ar ns pl C where
  g := mg_of X G oa
  k := kC
  run := by
    intro A R s us mb hn XK hl hg hb hbs hr hR
    obtain ⟨u1, u2, u3, u4, u5, u6, u7⟩ := hus us hn
    have hsup : mg "super" = none := PySem.W.mg_none_of X G hsup
    obtain ⟨nm, N, qn, bs', bm, hdct, sn, sub, ab, col, dd, k0, k1, k2, k3, k5, hC, hT⟩ := excInit_of XK q
    obtain ⟨hp', g, d, t, os⟩ := s
    show codeAny (model P w) A (.call (.ref C) ⟨(ar us).pos, (ar us).kw⟩) R _
    refine kw_call F hT hC (looks_findIn XK a) (fun self => bind_fn XK self (by
      have : (K.lookup fI).map (·.cls) = some (.type "function") := beq_iff_eq.mp i
      exact this)) (Nat.le_trans u1 (by rw [sizeLine_eq]; omega)) ?_
    have kk : ∀ b o, hp'.get? b = some o → ((hp'.push (kdv_tup (ar us).pos)).push (PySem.HandSPX.excO C hp'.objs.size)).get? b = some o := fun b o e => Heap.get?_push_of_some _ (Heap.get?_push_of_some _ e)
    have hget : ((hp'.push (kdv_tup (ar us).pos)).push (PySem.HandSPX.excO C hp'.objs.size)).get? (hp'.objs.size + 1) = some (PySem.HandSPX.excO C hp'.objs.size) := by heap_get
    have hK : K.lookup (hp'.objs.size + 1) = none := by
      cases z : K.lookup (hp'.objs.size + 1) with
      | none => rfl
      | some o => exact absurd (Nat.lt_of_succ_lt (Heap.lt_size (XK _ _ z) : hp'.objs.size + 1 < hp'.objs.size)) (Nat.lt_irrefl _)
    have hr2 : Room 1 (A.under (.builtin "type.__call__" ⟨.ref C :: (ar us).pos, (ar us).kw⟩)) := hr.make C (ar us).pos (ar us).kw
    rw [u3] at ho
    have hbd := fun e => hbind kV doc pm an (.ref cda) ct cc e us hn
    rw [u3] at hbd
    refine sup_initN (w := w) (binds := (("self" : Str), .ref (hp'.objs.size + 1)) :: bs us) (r0 := f0 us) (rs := fr us) (fd := ksFn "__init__" qual (defArgs st) (supBN msg j q0 q1 q2 q3 q4 q5 (f0 us) (fr us)) (defScope st) .none kV doc pm an (.ref cda) ct cc) (XK.keeps kk) (hl.keeps kk) (hg.keeps kk) (hb.keeps kk) hr2.depth F KF ho hcd hcode hvs hfile hcell q hcls hsub hB hop hsi hsa hm hhd (fun r hr => (u7 r hr).2.1) (u5 _) (fun r hr => (u7 r hr).1 _) (fun x hx => ?_) u2 hsup hbs htop hks hkc hk1 (fun r hr => (u7 r hr).2.2.1) hp har (fun r hr => (u7 r hr).2.2.2) hnc hco hgen hkd (.of_eq (hbd _)) hev hK hget ?_
    · rcases List.mem_cons.mp hx with rfl | hx
      · exact hk1
      · exact u6 x hx
    intro h' tk' dx t1 k1' s1 ne1 e1 n1
    rw [u4] at n1
    refine ⟨rfl, hR h' tk' dx _ t1 (Nat.le_succ _) (fun b o z => k1' b o (fun y => ?_) (kk b o z)) (Nat.le_trans (by show hp'.objs.size ≤ ((hp'.push (kdv_tup (ar us).pos)).push (PySem.HandSPX.excO C hp'.objs.size)).objs.size; rw [Heap.size_push, Heap.size_push]; exact Nat.le_succ_of_le (Nat.le_succ _)) s1) ne1 e1 n1⟩
    rw [y] at z
    exact absurd (Nat.lt_of_succ_lt (Heap.lt_size z : hp'.objs.size + 1 < hp'.objs.size)) (Nat.lt_irrefl _)
theorem excM1_mk {C fI cc cda : Addr} {B newId initId : String} {bmB : List Value} {oc ccl cl : Value} {od cdd cld : Option Addr} {osl ccs csl : Array (Option Value)} {cd : ClassData} {vs : Array Value} {file : Str} {tf : Tok} {arg : Arg} {st : Stmt}
    {x msg : Str} {j : Nat} {q0 q1 q2 q3 q4 q5 : Pos} {qual : Str} {kV doc pm ct : Value} {an : Option Addr} {ar : List Value → Args} {p f : Str} {q6 q7 q8 q9 : Pos}
    (X : K.In h) (G : h.Ns mainGlobals mg) (F : ExcBaseFacts B newId initId bmB) (KF : KxsFacts B initId)
    (oa : nsIn K mainGlobals x = some (some (.ref C))) (kC : keepIn K (.ref C) = true)
    (a : findIn K (.ref C) "__init__" = some (some (.ref fI))) (i : isFn K (.ref fI) = true)
    (ho : K.lookup fI = some ⟨oc, od, .func (ksFn "__init__" qual (defArgs st) (defBody st) (defScope st) .none kV doc pm an (.ref cda) ct cc), osl⟩) (hcd : codeIn K (.ref cda) qual = true)
    (hcode : K.lookup cda = some ⟨ccl, cdd, .fields vs, ccs⟩) (hvs : vs[2]? = some (.str file tf)) (hfile : ((P.main.file : Str) == file) = true)
    (hcell : K.lookup cc = some ⟨cl, cld, .cell (some (.ref C)), csl⟩) (q : excInitIn K C bmB newId = true) (hcls : clsIn K C = some cd) (hsub : mroIn K C (.ref C) = some true) (hB : subIn K (.ref C) (.type B) = some true)
    (hop : nsIn K cStatics "thirdparty.any" = some none) (hsi : ks_superIn K C C "__init__" = some (some (.builtin initId))) (hsa : findIn K (.ref C) "__setattr__" = some (some (.builtin "object.__setattr__")))
    (hm : PySem.HandSPX.refsVE cd.mro = true) (hhd : cd.hasDict = true) (hsup : nsIn K mainGlobals "super" = some none) (htop : (P.main.scope.names.lookup ("super" : Str)).isSome = false)
    (hks : (defScope st).names.lookup ("super" : Str) = some .globalImplicit) (hkc : (defScope st).names.lookup ("__class__" : Str) = some .free) (hk1 : (defScope st).names.lookup ("self" : Str) = some .local)
    (hp : ((defArgs st).posonlyargs ++ (defArgs st).args).head? = some arg) (har : arg.arg = "self")
    (hnc : ∀ x ∈ (defScope st).names, x.2 ≠ .cell) (hco : (defScope st).isCoroutine = false) (hgen : (defScope st).isGenerator = false) (hkd : (defScope st).kind = .function)
    (hbody : defBody st = supBN msg j q0 q1 q2 q3 q4 q5 ⟨f, p, .none, q6, q7, q8, q9⟩ []) (hk2 : (defScope st).names.lookup p = some .local) (hpd : (p == ("__debug__" : Str)) = false) (hps : p ≠ "self") (haf : findIn K (.ref C) f = some none)
    (hap : ∀ us : List Value, us.length = 1 → (ar us).pos.length ≤ 100)
    (hbind : ∀ (kV doc pm : Value) (an : Option Addr) (cdv ct : Value) (cc : Addr) (e b : Value), bindArgs (ksFn "__init__" qual (defArgs st) (defBody st) (defScope st) .none kV doc pm an cdv ct cc) ⟨e :: (ar [b]).pos, (ar [b]).kw⟩ = pure [(("self" : Str), e), (p, b)])
    (hev : ∀ env : Env, eval (.Call (.Attribute (.Call (.Name "super" q0) [] [] q1) "__init__" q2) [.Constant (.str msg) j q3] [] q4) env = (do
      let ov ← attributeBase (.Call (.Name "super" q0) [] [] q1) "__init__" env (eval (.Call (.Name "super" q0) [] [] q1) env)
      standAt q2.atName
      let (f, first) ← holding [ov] (getMethod ov "__init__" supPl)
      callWith q4 f first (backTo q4 (starEach [.Constant (.str msg) j q3] env)) [])) : ExcM P w K mg x 1 ar [f] [0] C :=
  excM_mk (bs := fun us => [(p, us.headD .none)]) (f0 := fun us => ⟨f, p, us.headD .none, q6, q7, q8, q9⟩) (fr := fun _ => []) X G F KF oa kC a i ho hcd hcode hvs hfile hcell q hcls hsub hB hop hsi hsa hm hhd hsup htop hks hkc hk1 hp har hnc hco hgen hkd
    (fun kV doc pm an cdv ct cc e us hu => by
      match us, hu with
      | [b], _ => exact hbind kV doc pm an cdv ct cc e b)
    (fun us hu => by
      have h1 := hap us hu
      match us, hu with
      | [b], _ =>
        refine ⟨h1, by simp, hbody, rfl, fun e => ?_, fun y hy => ?_, fun r hr => ?_⟩
        · have : (("self" : Str) == p) = false := by simpa using Ne.symm hps
          simp [List.lookup, this]
        · rw [List.mem_singleton.mp hy]; exact hk2
        · rw [List.mem_singleton.mp hr]
          exact ⟨fun e => by simp [List.lookup], haf, hk2, hpd⟩) hev
theorem excM3_mk {C fI cc cda : Addr} {B newId initId : String} {bmB : List Value} {oc ccl cl : Value} {od cdd cld : Option Addr} {osl ccs csl : Array (Option Value)} {cd : ClassData} {vs : Array Value} {file : Str} {tf : Tok} {arg : Arg} {st : Stmt}
    {x msg : Str} {j : Nat} {q0 q1 q2 q3 q4 q5 : Pos} {qual : Str} {kV doc pm ct : Value} {an : Option Addr} {ar : List Value → Args} {p1 p2 p3 f1 f2 f3 : Str} {r1 r2 r3 r4 r5 r6 r7 r8 r9 ra rb rc : Pos} {i1 i2 i3 : Nat}
    (X : K.In h) (G : h.Ns mainGlobals mg) (F : ExcBaseFacts B newId initId bmB) (KF : KxsFacts B initId)
    (oa : nsIn K mainGlobals x = some (some (.ref C))) (kC : keepIn K (.ref C) = true)
    (a : findIn K (.ref C) "__init__" = some (some (.ref fI))) (i : isFn K (.ref fI) = true)
    (ho : K.lookup fI = some ⟨oc, od, .func (ksFn "__init__" qual (defArgs st) (defBody st) (defScope st) .none kV doc pm an (.ref cda) ct cc), osl⟩) (hcd : codeIn K (.ref cda) qual = true)
    (hcode : K.lookup cda = some ⟨ccl, cdd, .fields vs, ccs⟩) (hvs : vs[2]? = some (.str file tf)) (hfile : ((P.main.file : Str) == file) = true)
    (hcell : K.lookup cc = some ⟨cl, cld, .cell (some (.ref C)), csl⟩) (q : excInitIn K C bmB newId = true) (hcls : clsIn K C = some cd) (hsub : mroIn K C (.ref C) = some true) (hB : subIn K (.ref C) (.type B) = some true)
    (hop : nsIn K cStatics "thirdparty.any" = some none) (hsi : ks_superIn K C C "__init__" = some (some (.builtin initId))) (hsa : findIn K (.ref C) "__setattr__" = some (some (.builtin "object.__setattr__")))
    (hm : PySem.HandSPX.refsVE cd.mro = true) (hhd : cd.hasDict = true) (hsup : nsIn K mainGlobals "super" = some none) (htop : (P.main.scope.names.lookup ("super" : Str)).isSome = false)
    (hks : (defScope st).names.lookup ("super" : Str) = some .globalImplicit) (hkc : (defScope st).names.lookup ("__class__" : Str) = some .free) (hk1 : (defScope st).names.lookup ("self" : Str) = some .local)
    (hp : ((defArgs st).posonlyargs ++ (defArgs st).args).head? = some arg) (har : arg.arg = "self")
    (hnc : ∀ x ∈ (defScope st).names, x.2 ≠ .cell) (hco : (defScope st).isCoroutine = false) (hgen : (defScope st).isGenerator = false) (hkd : (defScope st).kind = .function)
    (hbody : defBody st = supBN msg j q0 q1 q2 q3 q4 q5 ⟨f1, p1, .none, r1, r2, r3, r4⟩ [⟨f2, p2, .none, r5, r6, r7, r8⟩, ⟨f3, p3, .none, r9, ra, rb, rc⟩])
    (hk2 : ∀ p ∈ [p1, p2, p3], (defScope st).names.lookup p = some .local ∧ (p == ("__debug__" : Str)) = false) (hnd : (("self" : Str) :: [p1, p2, p3]).Nodup) (haf : ∀ f ∈ [f1, f2, f3], findIn K (.ref C) f = some none)
    (hap : ∀ us : List Value, us.length = 3 → (ar us).pos.length ≤ 100) (hi : i1 < 3 ∧ i2 < 3 ∧ i3 < 3)
    (hbind : ∀ (kV doc pm : Value) (an : Option Addr) (cdv ct : Value) (cc : Addr) (e : Value) (us : List Value), us.length = 3 → bindArgs (ksFn "__init__" qual (defArgs st) (defBody st) (defScope st) .none kV doc pm an cdv ct cc) ⟨e :: (ar us).pos, (ar us).kw⟩ = pure [(("self" : Str), e), (p1, us.getD i1 .none), (p2, us.getD i2 .none), (p3, us.getD i3 .none)])
    (hev : ∀ env : Env, eval (.Call (.Attribute (.Call (.Name "super" q0) [] [] q1) "__init__" q2) [.Constant (.str msg) j q3] [] q4) env = (do
      let ov ← attributeBase (.Call (.Name "super" q0) [] [] q1) "__init__" env (eval (.Call (.Name "super" q0) [] [] q1) env)
      standAt q2.atName
      let (f, first) ← holding [ov] (getMethod ov "__init__" supPl)
      callWith q4 f first (backTo q4 (starEach [.Constant (.str msg) j q3] env)) [])) : ExcM P w K mg x 3 ar [f3, f2, f1] [i3, i2, i1] C :=
  excM_mk (bs := fun us => [(p1, us.getD i1 .none), (p2, us.getD i2 .none), (p3, us.getD i3 .none)]) (f0 := fun us => ⟨f1, p1, us.getD i1 .none, r1, r2, r3, r4⟩) (fr := fun us => [⟨f2, p2, us.getD i2 .none, r5, r6, r7, r8⟩, ⟨f3, p3, us.getD i3 .none, r9, ra, rb, rc⟩]) X G F KF oa kC a i ho hcd hcode hvs hfile hcell q hcls hsub hB hop hsi hsa hm hhd hsup htop hks hkc hk1 hp har hnc hco hgen hkd
    hbind
    (fun us hu => by
      have h1 := hap us hu
      have g : ∀ i, i < 3 → us[i]? = some (us.getD i .none) := fun i h => by
        rw [List.getD_eq_getElem?_getD, List.getElem?_eq_getElem (by omega)]; rfl
      simp only [List.nodup_cons, List.mem_cons, List.not_mem_nil, or_false, not_or] at hnd
      obtain ⟨⟨n1, n2, n3⟩, ⟨n4, n5⟩, n6, _⟩ := hnd
      refine ⟨h1, by simp, hbody, ?_, fun e => ?_, fun y hy => ?_, fun r hr => ?_⟩
      · show [(f3, us.getD i3 .none), (f2, us.getD i2 .none), (f1, us.getD i1 .none)] = _
        unfold perm
        rw [List.filterMap_cons_some (g i3 hi.2.2), List.filterMap_cons_some (g i2 hi.2.1), List.filterMap_cons_some (g i1 hi.1)]
        rfl
      · simp [List.lookup, beq_eq_false_iff_ne.mpr n1, beq_eq_false_iff_ne.mpr n2, beq_eq_false_iff_ne.mpr n3]
      · simp only [List.mem_cons, List.not_mem_nil, or_false] at hy
        rcases hy with rfl | rfl | rfl
        · exact (hk2 p1 (by simp)).1
        · exact (hk2 p2 (by simp)).1
        · exact (hk2 p3 (by simp)).1
      · simp only [List.mem_cons, List.not_mem_nil, or_false] at hr
        rcases hr with rfl | rfl | rfl
        · exact ⟨fun e => by simp [List.lookup, beq_eq_false_iff_ne.mpr n4, beq_eq_false_iff_ne.mpr n5], haf f1 (by simp), (hk2 p1 (by simp)).1, (hk2 p1 (by simp)).2⟩
        · exact ⟨fun e => by simp [List.lookup, beq_eq_false_iff_ne.mpr n6], haf f2 (by simp), (hk2 p2 (by simp)).1, (hk2 p2 (by simp)).2⟩
        · exact ⟨fun e => by simp [List.lookup], haf f3 (by simp), (hk2 p3 (by simp)).1, (hk2 p3 (by simp)).2⟩) hev
end

/-! ### the rules -/
/-- at a: an exception of the class at C with its dict at dx -/
def xoM (C : Addr) (od : Option Addr) (a : Addr) : HO := .ext fun h => ∃ (oe : Obj) (vs : Array Value), h.get? a = some oe ∧ oe.cls = .ref C ∧ oe.dict = od ∧ oe.data = .fields vs
theorem xoM_x {C : Addr} {od : Option Addr} {a : Addr} : XoH C od a (xoM C od a) := ⟨_, rfl, fun _ z => z⟩
theorem exO_x {C a : Addr} : XoH C none a (ExO (.ref C) a) := ⟨_, rfl, fun _ ⟨oe, vs, e, z, d, _⟩ => ⟨oe, vs, e, z.1, z.2, d⟩⟩
theorem relO_zip {as : List V} {bs : List Value} (r : Vals as bs) : ∀ (ns : List Str) (y : Str), RelO ((ns.zip as).lookup y) ((ns.zip bs).lookup y) := by
  induction r with
  | nil => intro ns y; cases ns <;> exact True.intro
  | @cons a b as bs h t ih =>
    intro ns y
    cases ns with
    | nil => exact True.intro
    | cons n ns =>
      simp only [List.zip_cons_cons, List.lookup_cons]
      cases (y == n) with
      | true => exact h
      | false => exact ih ns y
section
variable {X : Cx} {ct : Ctb} {W : WX}
/-- what such a call leaves -/
def rXM (n : Nat) (ns : List Str) (pl : List Nat) (C : Addr) (vs : List V) (H : Hp) (Q : VK) : Prop := vs.length = n ∧ ∀ a dx, H a = none → H dx = none → dx ≠ a → Q (.ref a) (upd (upd H dx (.xd (ns.zip (perm pl vs)))) a (xoM C (some dx) a))
theorem callM {x : Str} {n : Nat} {ar : List Value → Args} {ns : List Str} {pl : List Nat} {C : Addr} {E : Value → Shared → Prop} {pins : List (Addr × Obj)} {σ : L2.St} {H : Hp} {s : Shared} {vs : List V} {us : List Value} {Q : VK} (T : ExcM X.prog X.w X.K X.mg x n ar ns pl C) (hr : Room 2 X.A)
    (I : Inv X pins σ H s) (r : Vals vs us) (q : rXM n ns pl C vs H Q) : codeAny (model X.prog X.w) X.A (.call (.ref C) (ar us)) (fun r s' => match r with | .ok (.ret u) => ∃ v H', Inv X pins σ H' s' ∧ RelV v u ∧ Q v H' | .ok _ => False | .error e => E e s') s := by
  obtain ⟨hn, q⟩ := q
  obtain ⟨mb, h1, h2⟩ := I.ok.mod.blt
  refine T.run (by rw [← hn]; exact (Paired.length r).symm) I.kIn (I.ok.mod.nolimit.keeps I.bk) (I.ok.mod.glob.keeps I.bk) (h1.keeps I.bk) ((h2 "super" (by decide)).trans (by first | boot_by_name | rfl | kernel_rfl)) hr ?_
  intro h' tk' dx e' t1 s1 k1 s2 ne e1 n1
  have hdx : H dx = none := I.hok.fresh s2
  have he' : H e' = none := I.hok.fresh s1
  obtain ⟨G, g1, g2⟩ := restrict h' fun b => decide (b ≠ e')
  have gk : ∀ b, b ≠ e' → G.get? b = h'.get? b := fun b hb => g1 b (decide_eq_true hb)
  have ge : G.get? e' = none := g2 e' (by simp)
  have keep : ∀ b o, s.heap.get? b = some o → G.get? b = some o := fun b o z => by
    rw [gk b (Nat.ne_of_lt (Nat.lt_of_lt_of_le (Heap.lt_size z) s1))]
    exact k1 b o z
  have nG : G.Ns1 dx (fun y => (ns.zip (perm pl us)).lookup y) := n1.at fun o z => (gk dx ne).trans z
  have J := I.laid (t' := tk') (a := dx) (o := .xd (ns.zip (perm pl vs))) (h' := G) keep s2 ⟨_, nG, relO_zip (Vals.perm r pl) ns⟩
  have J2 := J.laidN (t' := tk') (a := e') (o := xoM C (some dx) e') (h' := h') (fun b o z => by
    by_cases hb : b = e'
    · have z : G.get? b = some o := z
      rw [hb, ge] at z
      cases z
    · exact (gk b hb).symm.trans z) ge (by rw [upd_ne (Ne.symm ne)]; exact he') ⟨⟨_, _, e1, rfl, rfl, rfl⟩, ⟨_, e1⟩, fun _ _ ⟨o, v, z, z2⟩ k => ⟨o, v, k o z, z2⟩⟩
  exact ⟨.ref e', _, J2, rfl, q e' dx he' hdx ne⟩
/-- C(..): an exception as a value -/
def mMkF (c : Str) (C : Addr) (n : Nat) (ns : List Str) (pl : List Nat) (ma : MA) : ME := fun ρ h => (ma ρ h).bind fun ds h1 => if ds.length = n then .ok (.ref h1.length) (h1 ++ [.exo c C (ns.zip (perm pl ds))]) else .bad
def mMkX (c : Str) (C : Addr) (m : ME) : ME := fun ρ h => (m ρ h).bind fun _ h1 => .ok (.ref h1.length) (h1 ++ [.exo c C []])
theorem zip_maps {β : Type} : ∀ (ns : List Str) (xs : List β), (ns.zip xs).map (·.1) = ns.take xs.length ∧ (ns.zip xs).map (·.2) = xs.take ns.length
  | [], xs => by simp
  | n :: ns, [] => by simp
  | n :: ns, x :: xs => by
    obtain ⟨h1, h2⟩ := zip_maps ns xs
    simp [h1, h2]
theorem rXM_of {n : Nat} {ns : List Str} {pl : List Nat} {c : Str} {C : Addr} {μ : List Addr} {H : Hp} {h : Hh} {ds : List D} {vs : List V} {σ : L2.St} {Q : VK} {W : WX} (rh : RelH X.K μ H h) (dv : Dens X.K μ H ds vs)
    (p : PO X.K ct W σ μ H (fun d _ μ' H' => ∀ v, Den X.K μ' H' d v → Q v H') (if ds.length = n then .ok (.ref h.length) (h ++ [.exo c C (ns.zip (perm pl ds))]) else .bad)) : rXM n ns pl C vs H Q := by
  by_cases hl : ds.length = n
  · rw [if_pos hl] at p
    refine ⟨by rw [dv.length]; exact hl, fun a dx ha hd ne => ?_⟩
    have r1 := rh.new (o := .xd (ns.zip (perm pl vs))) hd
    have s1 : Step μ H μ (upd H dx (.xd (ns.zip (perm pl vs)))) := Step.new hd
    have ha1 : upd H dx (.xd (ns.zip (perm pl vs))) a = none := by rw [upd_ne (Ne.symm ne)]; exact ha
    have s2 : Step μ (upd H dx (.xd (ns.zip (perm pl vs)))) (μ ++ [a]) (upd (upd H dx (.xd (ns.zip (perm pl vs)))) a (xoM C (some dx) a)) := Step.newT ha1
    have dp := (dv.perm pl).mono (s1.trans s2)
    obtain ⟨z1, z2⟩ := zip_maps ns (perm pl ds)
    obtain ⟨y1, y2⟩ := zip_maps ns (perm pl vs)
    refine p _ _ (s1.trans s2) (r1.push (ob := .exo c C (ns.zip (perm pl ds))) ha1 ⟨some dx, _, upd_same, xoM_x, .inr ⟨dx, _, rfl, by rw [upd_ne ne]; exact upd_same, by rw [z1, y1, dp.length], ?_⟩⟩) _ ⟨a, rfl, ?_⟩
    · rw [z2, y2]
      exact dp.take _
    · rw [← rh.len, List.getElem?_append_right (Nat.le_refl _)]
      simp
  · rw [if_neg hl] at p
    exact p.elim
theorem se_mkF {x : Str} {n : Nat} {ns : List Str} {pl : List Nat} {C : Addr} {p pos : Pos} {e : Expr} {es : List Expr} {ma : MA} (T : ExcM X.prog X.w X.K X.mg x n (fun us => ⟨us, []⟩) ns pl C) (hr : Room 2 X.A) (hg : Gl X x) (ha : SA X ct W (e :: es) ma)
    (hdb : (x == ("__debug__" : Str)) = false := by decide) (he : starEach (e :: es) X.env = (false, eval e X.env) :: starEach es X.env := by rfl) (hpl : (backTo pos (starEach es X.env)).any (·.1) = false := by rfl) :
    SE X ct W (.Call (.Name x p) (e :: es) [] pos) (mMkF x C n ns pl ma) := by
  refine ⟨fun pins s σ H Q I ⟨μ, ρ, h, rs, rh, po⟩ => ?_⟩
  refine wpAny_Call_Name_kw (ld_glob I hg T.g ?_ hdb)
  refine PySem.W.callWith_K (h₀ := X.base) I.ok.mod.kin T.k (thn (ha.run pos pins s σ H (fun vs H1 => rXM n ns pl C vs H1 Q) I (rdA.go rs rh po fun ds h1 μ1 H1 vs s1 rs1 rh1 dv p1 => rXM_of rh1 dv p1)) fun us s1 hh => ?_) he hpl
  obtain ⟨vs, H1, I1, r1, q⟩ := hh
  refine ⟨I1.kIn, ?_⟩
  show wpAny _ _ (call (.ref C) us) _ _ _
  refine wpAny_call (codeAny_mono (callM (E := X.xe) T hr I1 r1 q) fun r s' hq => ?_)
  cases r with
  | error e => exact hq
  | ok fl =>
    cases fl with
    | ret u => exact hq
    | next => exact False.elim hq
    | brk => exact False.elim hq
    | cont => exact False.elim hq
theorem se_mkFK {x : Str} {n : Nat} {ns ks : List Str} {pl : List Nat} {C : Addr} {p pos : Pos} {kws : List Keyword} {mk : MA} (T : ExcM X.prog X.w X.K X.mg x n (fun us => ⟨[], ks.zip us⟩) ns pl C) (hr : Room 2 X.A) (hg : Gl X x)
    (hkw : SK X ct W kws mk) (hall : (backToKw pos (keywordEach kws X.env)).all (·.1.isSome) = true := by rfl) (hks : (backToKw pos (keywordEach kws X.env)).filterMap (·.1) = ks := by rfl)
    (hdb : (x == ("__debug__" : Str)) = false := by decide)
    (hpl : ((backTo pos (starEach [] X.env)).any (·.1) || (backToKw pos (keywordEach kws X.env)).any (·.1.isNone)) = false := by rfl) :
    SE X ct W (.Call (.Name x p) [] kws pos) (mMkF x C n ns pl mk) := by
  refine ⟨fun pins s σ H Q I ⟨μ, ρ, h, rs, rh, po⟩ => ?_⟩
  refine wpAny_Call_Name_kw (ld_glob I hg T.g ?_ hdb)
  refine PySem.W.callWith_KW0 (h₀ := X.base) I.ok.mod.kin T.k hall ?_ hpl
  refine thn (hkw.run pos pins s σ H (fun vs H1 => rXM n ns pl C vs H1 Q) I (rdA.go rs rh po fun ds h1 μ1 H1 vs s1 rs1 rh1 dv p1 => rXM_of rh1 dv p1)) fun us s1 hh => ?_
  obtain ⟨vs, H1, I1, r1, q⟩ := hh
  refine ⟨I1.kIn, ?_⟩
  rw [hks]
  show wpAny _ _ (call (.ref C) ([] ++ []) (ks.zip us)) _ _ _
  refine wpAny_call (codeAny_mono (callM (E := X.xe) T hr I1 r1 q) fun r s' hq => ?_)
  cases r with
  | error e => exact hq
  | ok fl =>
    cases fl with
    | ret u => exact hq
    | next => exact False.elim hq
    | brk => exact False.elim hq
    | cont => exact False.elim hq
/-- C(e), C without an own __init__ -/
theorem se_mkX {x : Str} {C : Addr} {p pos : Pos} {e : Expr} {m : ME} (T : ExcI X.K X.mg x C) (hg : Gl X x) (ha : SE X ct W e m)
    (hdb : (x == ("__debug__" : Str)) = false := by decide) (hs : starEach [e] X.env = (false, eval e X.env) :: starEach [] X.env := by rfl) : SE X ct W (.Call (.Name x p) [e] [] pos) (mMkX x C m) :=
  (pe_exc1 PySem.F.excBase_ValueError T.x T.g T.k hg ha hs hdb).imp fun σ H Q ⟨μ, ρ, h, rs, rh, p⟩ => rdE.go rs rh p fun d h1 μ1 H1 v s1 rs1 rh1 dv p1 => fun a ha => by
    have s2 : Step μ1 H1 (μ1 ++ [a]) (upd H1 a (ExO (.ref C) a)) := Step.newT ha
    refine p1 _ _ s2 (rh1.push (ob := .exo x C []) ha ⟨none, _, upd_same, exO_x, .inl ⟨rfl, rfl⟩⟩) _ ⟨a, rfl, ?_⟩
    rw [← rh1.len, List.getElem?_append_right (Nat.le_refl _)]
    simp
/-- how an exception that is tracked stands in the heap -/
theorem xo_inst {pins : List (Addr × Obj)} {σ : L2.St} {H : Hp} {s : Shared} {C a : Addr} {od : Option Addr} {u : HO} (I : Inv X pins σ H s) (ha : H a = some u) (hx : XoH C od a u) (hd : od = none ∨ ∃ dx fs, od = some dx ∧ H dx = some (.xd fs)) :
    ∃ ox oD, PySem.W.InstAt s.heap a ox C oD := by
  obtain ⟨φ, rfl, hφ⟩ := hx
  have hok : ObjOk X.prog X.w H s.heap a (.ext φ) := I.hok a _ ha
  obtain ⟨oe, vs, e1, e2, e3, e4⟩ := hφ _ hok.1
  rcases hd with rfl | ⟨dx, fs, rfl, hdx⟩
  · exact ⟨oe, none, e1, e2, by unfold PySem.W.notCls; rw [e4] <;> rfl, by rw [e3]; trivial⟩
  · have hx : ObjOk X.prog X.w H s.heap dx (.xd fs) := I.hok dx _ hdx
    obtain ⟨mA, hns, hr⟩ := hx
    obtain ⟨oD, ho, hl⟩ := lookIn_ns hns
    exact ⟨oe, some oD, e1, e2, by unfold PySem.W.notCls; rw [e4] <;> rfl, by rw [e3]; exact ho⟩
/-- isinstance of an exception that is held as a value -/
def rIsX (K : PySem.W.Frag) : List V → Hp → VK → Prop := fun xs H Q => ∃ (a D : Addr) (od : Option Addr) (u : HO) (c : V) (cv : Value) (b : Bool), xs = [.ref a, c] ∧ H a = some u ∧ XoH D od a u ∧ (od = none ∨ ∃ dx fs, od = some dx ∧ H dx = some (.xd fs)) ∧ ExcC K D ∧
  (∀ u, RelV c u → u = cv) ∧ PySem.W.kitOne K (.ref D) cv = some b ∧ Q (.bl b) H
theorem call_isX : CallR X (.builtin "isinstance") (rIsX X.K) := by
  intro pins s σ H xs us Q I r h
  obtain ⟨a, D, od, u, c, cv, b, rfl, ha, hx, hd, T, hcv, e, q⟩ := h
  obtain ⟨u1, u2, rfl, r1, r2⟩ := vals2 r
  cases (show u1 = Value.ref a from r1)
  have e2 := hcv _ r2
  subst e2
  obtain ⟨ox, oD, J⟩ := xo_inst I ha hx hd
  obtain ⟨cd, hc, _⟩ := PySem.W.any_some T.hd
  exact PySem.W.kia_one (PySem.W.kitx_exc (by rw [hc]; rfl) T.hg T.hk T.hs T.ha T.hn T.ht T.hm) I.kIn J e (fun z => nomatch z) fun tk => ⟨.bl b, H, I.tok tk, rfl, q⟩
def mIsX (ca : Str → Addr) (is : Str → Option Bool) (m : ME) : ME := fun ρ h => (m ρ h).bind fun d h1 => match d with
  | .ref i => match h1[i]? with
    | some (.exo c C _) => if C = ca c then match is c with
      | some b => .ok (.bl b) h1
      | none => .bad else .bad
    | _ => .bad
  | _ => .bad
theorem or_exo {K : PySem.W.Frag} {μ : List Addr} {H : Hp} {h : Hh} {i : Nat} {v : V} {c : Str} {C : Addr} {fs : List (Str × D)} (rh : RelH K μ H h) (dv : Den K μ H (.ref i) v) (hi : h[i]? = some (.exo c C fs)) :
    ∃ a, v = .ref a ∧ OR K μ H a (.exo c C fs) := by
  obtain ⟨a, rfl, ha⟩ := dv
  obtain ⟨a', ha', o⟩ := rh.obj i _ hi
  rw [ha] at ha'
  cases ha'
  exact ⟨a, rfl, o⟩
theorem se_isX {ca : Str → Addr} {is : Str → Option Bool} {x : Str} {p p2 pos : Pos} {e : Expr} {m : ME} {c : V} {cv : Value} (hX : ∀ k b, is k = some b → ExcC X.K (ca k) ∧ PySem.W.kitOne X.K (.ref (ca k)) cv = some b) (hg : Gl X "isinstance") (hm : X.mg "isinstance" = none)
    (he1 : SE X ct W e m) (hc : PE X (.Name x p2) (tC c)) (hcv : ∀ u, RelV c u → u = cv)
    (hs2 : starEach [.Name x p2] X.env = (false, eval (.Name x p2) X.env) :: starEach [] X.env := by rfl) (he : starEach [e, .Name x p2] X.env = (false, eval e X.env) :: starEach [.Name x p2] X.env := by rfl) (hpl : (backTo pos (starEach [.Name x p2] X.env)).any (·.1) = false := by rfl) :
    SE X ct W (.Call (.Name "isinstance" p) [e, .Name x p2] [] pos) (mIsX ca is m) :=
  (pe_callB call_isX hg hm PyProof.Rows.boot_isinstance (pa_cons he1 (pa_cons hc pa_nil hs2) he) (by decide) (by decide) he hpl).imp fun σ H Q ⟨μ, ρ, h, rs, rh, po⟩ => rdE.go rs rh po fun d h1 μ1 H1 v s1 rs1 rh1 dv p1 => by
    split at p1
    · rename_i i
      split at p1
      · rename_i k C fs hi
        split at p1
        · rename_i hC
          split at p1
          · rename_i b hb
            obtain ⟨T, hk⟩ := hX k b hb
            obtain ⟨a, rfl, od, u, e1, hx, z⟩ := or_exo rh1 dv hi
            subst hC
            refine ⟨a, ca k, od, u, c, cv, b, rfl, e1, hx, ?_, T, hcv, hk, p1.at rh1 _ rfl⟩
            rcases z with z | ⟨dx, gs, r1, r2, _⟩
            · exact .inl z.1
            · exact .inr ⟨dx, gs, r1, r2⟩
          · exact p1.elim
        · exact p1.elim
      · exact p1.elim
    · exact p1.elim
/-- e.f, e an exception that is held as a value -/
theorem pe_xfv {e : Expr} {te : TE} {pos : Pos} {n : Str} (he : PE X e te) (hb : attributeBase e n X.env (eval e X.env) = eval e X.env := by rfl) :
    PE X (.Attribute e n pos) (fun σ H Q => te σ H fun x H1 => ∃ (a C dx : Addr) (u : HO) (fs : List (Str × V)) (v : V), x = .ref a ∧ H1 a = some u ∧ XoH C (some dx) a u ∧ H1 dx = some (.xd fs) ∧ XfC X.K C ∧ PySem.W.findIn X.K (.ref C) n = some none ∧ fs.lookup n = some v ∧ Q v H1) := by
  refine ⟨fun pins s σ H Q I h => ?_⟩
  refine attr_of hb (thn (he.run pins s σ H _ I h) fun u s1 hh => ?_)
  obtain ⟨x, H1, I1, rx, a, C, dx, uo, fs, v, rfl, ea, ⟨φ, rfl, hφ⟩, ed, T, hno, l, q⟩ := hh
  obtain rfl : u = Value.ref a := rx
  have hok : ObjOk X.prog X.w H1 s1.heap a (.ext φ) := I1.hok a _ ea
  obtain ⟨oe, vs, e1, e2, e3, e4⟩ := hφ _ hok.1
  have hx : ObjOk X.prog X.w H1 s1.heap dx (.xd fs) := I1.hok dx _ ed
  obtain ⟨mA, hns, hr⟩ := hx
  obtain ⟨od, ho, hl⟩ := lookIn_ns hns
  obtain ⟨w, hw, rw'⟩ := RelO.some_of (v := v) (o := mA n) (by rw [← l]; exact hr n)
  have J : PySem.W.InstAt s1.heap a oe C (some od) := ⟨e1, e2, by unfold PySem.W.notCls; rw [e4] <;> rfl, by rw [e3]; exact ho⟩
  exact HandSPX.exc_get I1.kIn J T.ga T.gg T.exC (PySem.W.findObj_own T.hdC hno rfl (by rw [hl, hw])) (handed_of rw') ⟨v, H1, I1.tok _, rw', q⟩
def mXfV (ca : Str → Addr) (cs : List Str) (f : Str) (m : ME) : ME := fun ρ h => (m ρ h).bind fun d h1 => match d with
  | .ref i => match h1[i]? with
    | some (.exo c C fs) => if C = ca c ∧ c ∈ cs then match fs.lookup f with
      | some x => .ok x h1
      | none => .bad else .bad
    | _ => .bad
  | _ => .bad
theorem se_xfv {ca : Str → Addr} {cs : List Str} {f : Str} {pos : Pos} {e : Expr} {m : ME} (hX : ∀ c ∈ cs, XfC X.K (ca c) ∧ PySem.W.findIn X.K (.ref (ca c)) f = some none) (he : SE X ct W e m) (hb : attributeBase e f X.env (eval e X.env) = eval e X.env := by rfl) :
    SE X ct W (.Attribute e f pos) (mXfV ca cs f m) :=
  (pe_xfv he hb).imp fun σ H Q ⟨μ, ρ, h, rs, rh, po⟩ => rdE.go rs rh po fun d h1 μ1 H1 v s1 rs1 rh1 dv p1 => by
    split at p1
    · rename_i i
      split at p1
      · rename_i k C fs hi
        split at p1
        · rename_i hC
          split at p1
          · rename_i y hy
            obtain ⟨rfl, hk⟩ := hC
            obtain ⟨T, hno⟩ := hX k hk
            obtain ⟨a, rfl, od, u, e1, hx, z⟩ := or_exo rh1 dv hi
            rcases z with z | ⟨dx, gs, rfl, r2, r3, r4⟩
            · rw [z.2] at hy; cases hy
            · obtain ⟨w, w1, w2⟩ := fld_get r3 r4 hy
              exact ⟨a, _, dx, u, gs, w, rfl, e1, hx, r2, T, hno, w1, p1.at rh1 _ w2⟩
          · exact p1.elim
        · exact p1.elim
      · exact p1.elim
    · exact p1.elim
end

/-! ### classes by a table -/
section
open PySem.W
variable {K : PySem.W.Frag}
def excB (K : PySem.W.Frag) (D : Addr) : Bool := decide (findIn K (.ref D) "__getattribute__" = some (some (.builtin "BaseException.__getattribute__"))) && (decide (findIn K (.ref D) "__getattr__" = some none) && (decide (subIn K (.ref D) (.type "BaseException") = some true) &&
  (hasDictIn K D && (decide (findIn K (.ref D) "__class__" = some (some (.builtin "object.__class__"))) && decide (mroIn K D (.type "object") = some true)))))
theorem excB_ok {D : Addr} (hn : specialIn K (.builtin "object.__class__") "__get__" = some (some (.builtin "getset_descriptor.__get__"))) (ht : takesIn K (.builtin "object.__class__") = some true) (h : excB K D = true) : ExcC K D := by
  simp only [excB, Bool.and_eq_true, decide_eq_true_eq] at h
  obtain ⟨h1, h2, h3, h4, h5, h6⟩ := h
  exact ⟨h1, h2, h3, h4, h5, hn, ht, h6⟩
theorem kit_tab {tab : List (Str × Addr)} {C : Addr} {f : Str → Bool} {T : Str} (hd : hasDictIn K C = true) (ht : typeIn K (.ref C) = some (.type "type")) (hs : tab.all (fun p => decide (subIn K (.ref p.2) (.ref C) = some (f p.1))) = true) (hT : (T, C) ∈ tab) (fT : f T = true) :
    ∀ p ∈ tab, kitOne K (.ref p.2) (.ref C) = some (f p.1) := fun p hp => by
  have h := List.all_eq_true.mp hs
  have h1 := of_decide_eq_true (h p hp)
  have h2 := of_decide_eq_true (h _ hT)
  exact kit_ref hd ht h1 fun e => by
    rw [e] at h1
    have h2 : subIn K (.ref C) (.ref C) = some (f T) := h2
    rw [h2] at h1
    rw [← Option.some.inj h1]; exact fT
theorem kit_tabT {tab : List (Str × Addr)} {f : Str → Bool} {T : String} (m : kitMeta T = true) (hs : tab.all (fun p => decide (subIn K (.ref p.2) (.type T) = some (f p.1))) = true) : ∀ p ∈ tab, kitOne K (.ref p.2) (.type T) = some (f p.1) := fun p hp =>
  kit_tyE m (of_decide_eq_true (List.all_eq_true.mp hs p hp))
def isxOf (xva : List (Str × List Str)) (T k : Str) : Option Bool := (xva.lookup k).map fun l => decide (T ∈ l)
theorem isx_mk {ca : Str → Addr} {xva : List (Str × List Str)} {tab : List (Str × Addr)} {T : Str} {tv : Value} (hca : ∀ p ∈ tab, ca p.1 = p.2) (hn : tab.map (·.1) = xva.map (·.1)) (hX : ∀ p ∈ tab, ExcC K p.2)
    (hk : ∀ p ∈ tab, kitOne K (.ref p.2) tv = some (decide (T ∈ (xva.lookup p.1).getD []))) : ∀ k b, isxOf xva T k = some b → ExcC K (ca k) ∧ kitOne K (.ref (ca k)) tv = some b := fun k b h => by
  unfold isxOf at h
  cases e : xva.lookup k with
  | none => rw [e] at h; cases h
  | some l =>
    rw [e] at h
    have hb : decide (T ∈ l) = b := Option.some.inj h
    have hm : k ∈ xva.map (·.1) := by
      clear hn hk h
      induction xva with
      | nil => cases e
      | cons p xva ih =>
        rw [List.lookup_cons] at e
        split at e
        · rename_i z
          have : k = p.1 := by simpa using z
          rw [this]; exact List.mem_cons_self ..
        · exact List.mem_cons_of_mem _ (ih e)
    rw [← hn] at hm
    obtain ⟨p, hp, rfl⟩ := List.mem_map.mp hm
    have h3 := hk p hp
    rw [e] at h3
    rw [hca p hp]
    refine ⟨hX p hp, h3.trans ?_⟩
    rw [← hb]; rfl
theorem all_mem {α : Type} {l : List α} {f : α → Bool} (h : l.all f = true) : ∀ p ∈ l, f p = true := List.all_eq_true.mp h
end
end PI
/-! Exceptions as values: equations for simp. -/
namespace PI
open PySem PySem.Spec L2
open PyProof.Rows hiding St
section
variable {ρ : Rho} {h : Hh} {ma : MA} {m : ME}
@[simp] theorem mMkF_ap {c : Str} {C : Addr} {n : Nat} {ns : List Str} {pl : List Nat} : mMkF c C n ns pl ma ρ h = (ma ρ h).bind fun ds h1 => if ds.length = n then .ok (.ref h1.length) (h1 ++ [.exo c C (ns.zip (perm pl ds))]) else .bad := rfl
@[simp] theorem mMkX_ap {c : Str} {C : Addr} : mMkX c C m ρ h = (m ρ h).bind fun _ h1 => .ok (.ref h1.length) (h1 ++ [.exo c C []]) := rfl
/-- isinstance of what stands there -/
def isV (ca : Str → Addr) (is : Str → Option Bool) (d : D) (h1 : Hh) : Out D := match d with
  | .ref i => match h1[i]? with
    | some (.exo c C _) => if C = ca c then match is c with
      | some b => .ok (.bl b) h1
      | none => .bad else .bad
    | _ => .bad
  | _ => .bad
@[simp] theorem mIsX_ap {ca : Str → Addr} {is : Str → Option Bool} : mIsX ca is m ρ h = (m ρ h).bind fun d h1 => isV ca is d h1 := rfl
theorem isV_ref {ca : Str → Addr} {is : Str → Option Bool} {i : Nat} {c : Str} {fs : List (Str × D)} {b : Bool} (e : h[i]? = some (.exo c (ca c) fs)) (hb : is c = some b) : isV ca is (.ref i) h = .ok (.bl b) h := by
  simp [isV, e, hb]
def xfV (ca : Str → Addr) (cs : List Str) (f : Str) (d : D) (h1 : Hh) : Out D := match d with
  | .ref i => match h1[i]? with
    | some (.exo c C fs) => if C = ca c ∧ c ∈ cs then match fs.lookup f with
      | some x => .ok x h1
      | none => .bad else .bad
    | _ => .bad
  | _ => .bad
@[simp] theorem mXfV_ap {ca : Str → Addr} {cs : List Str} {f : Str} : mXfV ca cs f m ρ h = (m ρ h).bind fun d h1 => xfV ca cs f d h1 := rfl
theorem xfV_ref {ca : Str → Addr} {cs : List Str} {f : Str} {i : Nat} {c : Str} {fs : List (Str × D)} {x : D} (e : h[i]? = some (.exo c (ca c) fs)) (hc : c ∈ cs) (hx : fs.lookup f = some x) : xfV ca cs f (.ref i) h = .ok x h := by
  simp [xfV, e, hc, hx]
end
end PI
set_option maxHeartbeats 4000000
namespace K00
open PySem PySem.Spec L2 PI
open PyProof.Rows hiding St
def topS (i : Nat) : Stmt := PySem.Challenge.pw_cellcode_k00_errors.main.body.getD i (.Pass ⟨0, 0, 0, 0⟩)
def ctb : Ctb := fun _ => none
def xva : List (Str × List Str) := [(("PaidError" : Str), (["PaidError", "ValueError"] : List Str)), (("BadProgram" : Str), (["BadProgram", "PaidError", "ValueError"] : List Str)), (("BadCore" : Str), (["BadCore", "PaidError", "ValueError"] : List Str)), (("BadName" : Str), (["BadName", "PaidError", "ValueError"] : List Str)), (("BadRow" : Str), (["BadRow", "PaidError", "ValueError"] : List Str)), (("BadKind" : Str), (["BadKind", "PaidError", "ValueError"] : List Str)), (("BadArgs" : Str), (["BadArgs", "PaidError", "ValueError"] : List Str)), (("BadLimit" : Str), (["BadLimit", "PaidError", "ValueError"] : List Str)), (("BadLog" : Str), (["BadLog", "PaidError", "ValueError"] : List Str)), (("BadVariable" : Str), (["BadVariable", "PaidError", "ValueError"] : List Str)), (("BadPlacing" : Str), (["BadPlacing", "PaidError", "ValueError"] : List Str)), (("BadSteps" : Str), (["BadSteps", "PaidError", "ValueError"] : List Str)), (("BadMeasures" : Str), (["BadMeasures", "PaidError", "ValueError"] : List Str)), (("BadNumber" : Str), (["BadNumber", "PaidError", "ValueError"] : List Str)), (("BadBook" : Str), (["BadBook", "PaidError", "ValueError"] : List Str)), (("BadIndex" : Str), (["BadIndex", "PaidError", "ValueError"] : List Str)), (("BadNever" : Str), (["BadNever", "PaidError", "ValueError"] : List Str)), (("BadGoal" : Str), (["BadGoal", "PaidError", "ValueError"] : List Str)), (("BadHints" : Str), (["BadHints", "PaidError", "ValueError"] : List Str)), (("BadShowings" : Str), (["BadShowings", "PaidError", "ValueError"] : List Str)), (("BadNeeds" : Str), (["BadNeeds", "PaidError", "ValueError"] : List Str)), (("BadRatio" : Str), (["BadRatio", "PaidError", "ValueError"] : List Str)), (("ZeroBottom" : Str), (["ZeroBottom", "PaidError", "ValueError"] : List Str)), (("BadSystem" : Str), (["BadSystem", "PaidError", "ValueError"] : List Str)), (("BadLine" : Str), (["BadLine", "PaidError", "ValueError"] : List Str)), (("BadTemplate" : Str), (["BadTemplate", "PaidError", "ValueError"] : List Str)), (("BadPoint" : Str), (["BadPoint", "PaidError", "ValueError"] : List Str)), (("BadAmounts" : Str), (["BadAmounts", "PaidError", "ValueError"] : List Str)), (("BadLevels" : Str), (["BadLevels", "PaidError", "ValueError"] : List Str)), (("NoCells" : Str), (["NoCells", "PaidError", "ValueError"] : List Str)), (("NotNew" : Str), (["NotNew", "PaidError", "ValueError"] : List Str)), (("TooGreat" : Str), (["TooGreat", "PaidError", "ValueError"] : List Str)), (("BadEffort" : Str), (["BadEffort", "PaidError", "ValueError"] : List Str)), (("BadImage" : Str), (["BadImage", "PaidError", "ValueError"] : List Str)), (("Unfit" : Str), (["Unfit", "PaidError", "ValueError"] : List Str)), (("BadText" : Str), (["BadText", "PaidError", "ValueError"] : List Str)), (("NotChecked" : Str), (["NotChecked", "PaidError", "ValueError"] : List Str)), (("NotRight" : Str), (["NotRight", "PaidError", "ValueError"] : List Str)), (("NotLet" : Str), (["NotLet", "PaidError", "ValueError"] : List Str)), (("BadListing" : Str), (["BadListing", "PaidError", "ValueError"] : List Str)), (("Refused" : Str), (["Refused", "PaidError", "ValueError"] : List Str))]
def isx : Str → Str → Option Bool := isxOf xva
def xvt (aPaidError aBadProgram aBadCore aBadName aBadRow aBadKind aBadArgs aBadLimit aBadLog aBadVariable aBadPlacing aBadSteps aBadMeasures aBadNumber aBadBook aBadIndex aBadNever aBadGoal aBadHints aBadShowings aBadNeeds aBadRatio aZeroBottom aBadSystem aBadLine aBadTemplate aBadPoint aBadAmounts aBadLevels aNoCells aNotNew aTooGreat aBadEffort aBadImage aUnfit aBadText aNotChecked aNotRight aNotLet aBadListing aRefused : Addr) : List (Str × Addr) := [(("PaidError" : Str), aPaidError), (("BadProgram" : Str), aBadProgram), (("BadCore" : Str), aBadCore), (("BadName" : Str), aBadName), (("BadRow" : Str), aBadRow), (("BadKind" : Str), aBadKind), (("BadArgs" : Str), aBadArgs), (("BadLimit" : Str), aBadLimit), (("BadLog" : Str), aBadLog), (("BadVariable" : Str), aBadVariable), (("BadPlacing" : Str), aBadPlacing), (("BadSteps" : Str), aBadSteps), (("BadMeasures" : Str), aBadMeasures), (("BadNumber" : Str), aBadNumber), (("BadBook" : Str), aBadBook), (("BadIndex" : Str), aBadIndex), (("BadNever" : Str), aBadNever), (("BadGoal" : Str), aBadGoal), (("BadHints" : Str), aBadHints), (("BadShowings" : Str), aBadShowings), (("BadNeeds" : Str), aBadNeeds), (("BadRatio" : Str), aBadRatio), (("ZeroBottom" : Str), aZeroBottom), (("BadSystem" : Str), aBadSystem), (("BadLine" : Str), aBadLine), (("BadTemplate" : Str), aBadTemplate), (("BadPoint" : Str), aBadPoint), (("BadAmounts" : Str), aBadAmounts), (("BadLevels" : Str), aBadLevels), (("NoCells" : Str), aNoCells), (("NotNew" : Str), aNotNew), (("TooGreat" : Str), aTooGreat), (("BadEffort" : Str), aBadEffort), (("BadImage" : Str), aBadImage), (("Unfit" : Str), aUnfit), (("BadText" : Str), aBadText), (("NotChecked" : Str), aNotChecked), (("NotRight" : Str), aNotRight), (("NotLet" : Str), aNotLet), (("BadListing" : Str), aBadListing), (("Refused" : Str), aRefused)]
/-- what the module has written -/
structure Md (P : Program) (w : World) (K : PySem.W.Frag) (mg : Str → Option Value) (ca : Ev) : Prop where
  xg_PaidError : mg "PaidError" = some (.ref (ca "PaidError"))
  xe_PaidError : ExcI K mg "PaidError" (ca "PaidError")
  xg_BadProgram : mg "BadProgram" = some (.ref (ca "BadProgram"))
  xe_BadProgram : ExcI K mg "BadProgram" (ca "BadProgram")
  xg_BadCore : mg "BadCore" = some (.ref (ca "BadCore"))
  xe_BadCore : ExcI K mg "BadCore" (ca "BadCore")
  xg_BadName : mg "BadName" = some (.ref (ca "BadName"))
  xe_BadName : ExcI K mg "BadName" (ca "BadName")
  xg_BadRow : mg "BadRow" = some (.ref (ca "BadRow"))
  xe_BadRow : ExcI K mg "BadRow" (ca "BadRow")
  xg_BadKind : mg "BadKind" = some (.ref (ca "BadKind"))
  xe_BadKind : ExcI K mg "BadKind" (ca "BadKind")
  xg_BadArgs : mg "BadArgs" = some (.ref (ca "BadArgs"))
  xe_BadArgs : ExcI K mg "BadArgs" (ca "BadArgs")
  xg_BadLimit : mg "BadLimit" = some (.ref (ca "BadLimit"))
  xe_BadLimit : ExcI K mg "BadLimit" (ca "BadLimit")
  xg_BadLog : mg "BadLog" = some (.ref (ca "BadLog"))
  xe_BadLog : ExcI K mg "BadLog" (ca "BadLog")
  xg_BadVariable : mg "BadVariable" = some (.ref (ca "BadVariable"))
  xe_BadVariable : ExcI K mg "BadVariable" (ca "BadVariable")
  xg_BadPlacing : mg "BadPlacing" = some (.ref (ca "BadPlacing"))
  xe_BadPlacing : ExcI K mg "BadPlacing" (ca "BadPlacing")
  xg_BadSteps : mg "BadSteps" = some (.ref (ca "BadSteps"))
  xe_BadSteps : ExcI K mg "BadSteps" (ca "BadSteps")
  xg_BadMeasures : mg "BadMeasures" = some (.ref (ca "BadMeasures"))
  xe_BadMeasures : ExcI K mg "BadMeasures" (ca "BadMeasures")
  xg_BadNumber : mg "BadNumber" = some (.ref (ca "BadNumber"))
  xe_BadNumber : ExcI K mg "BadNumber" (ca "BadNumber")
  xg_BadBook : mg "BadBook" = some (.ref (ca "BadBook"))
  xe_BadBook : ExcI K mg "BadBook" (ca "BadBook")
  xg_BadIndex : mg "BadIndex" = some (.ref (ca "BadIndex"))
  xe_BadIndex : ExcI K mg "BadIndex" (ca "BadIndex")
  xg_BadNever : mg "BadNever" = some (.ref (ca "BadNever"))
  xe_BadNever : ExcI K mg "BadNever" (ca "BadNever")
  xg_BadGoal : mg "BadGoal" = some (.ref (ca "BadGoal"))
  xe_BadGoal : ExcI K mg "BadGoal" (ca "BadGoal")
  xg_BadHints : mg "BadHints" = some (.ref (ca "BadHints"))
  xe_BadHints : ExcI K mg "BadHints" (ca "BadHints")
  xg_BadShowings : mg "BadShowings" = some (.ref (ca "BadShowings"))
  xe_BadShowings : ExcI K mg "BadShowings" (ca "BadShowings")
  xg_BadNeeds : mg "BadNeeds" = some (.ref (ca "BadNeeds"))
  xe_BadNeeds : ExcI K mg "BadNeeds" (ca "BadNeeds")
  xg_BadRatio : mg "BadRatio" = some (.ref (ca "BadRatio"))
  xe_BadRatio : ExcI K mg "BadRatio" (ca "BadRatio")
  xg_ZeroBottom : mg "ZeroBottom" = some (.ref (ca "ZeroBottom"))
  xe_ZeroBottom : ExcI K mg "ZeroBottom" (ca "ZeroBottom")
  xg_BadSystem : mg "BadSystem" = some (.ref (ca "BadSystem"))
  xe_BadSystem : ExcI K mg "BadSystem" (ca "BadSystem")
  xg_BadLine : mg "BadLine" = some (.ref (ca "BadLine"))
  xe_BadLine : ExcI K mg "BadLine" (ca "BadLine")
  xg_BadTemplate : mg "BadTemplate" = some (.ref (ca "BadTemplate"))
  xe_BadTemplate : ExcI K mg "BadTemplate" (ca "BadTemplate")
  xg_BadPoint : mg "BadPoint" = some (.ref (ca "BadPoint"))
  xe_BadPoint : ExcI K mg "BadPoint" (ca "BadPoint")
  xg_BadAmounts : mg "BadAmounts" = some (.ref (ca "BadAmounts"))
  xe_BadAmounts : ExcI K mg "BadAmounts" (ca "BadAmounts")
  xg_BadLevels : mg "BadLevels" = some (.ref (ca "BadLevels"))
  xe_BadLevels : ExcI K mg "BadLevels" (ca "BadLevels")
  xg_NoCells : mg "NoCells" = some (.ref (ca "NoCells"))
  xe_NoCells : ExcI K mg "NoCells" (ca "NoCells")
  xg_NotNew : mg "NotNew" = some (.ref (ca "NotNew"))
  xe_NotNew : ExcI K mg "NotNew" (ca "NotNew")
  xg_TooGreat : mg "TooGreat" = some (.ref (ca "TooGreat"))
  xe_TooGreat : ExcI K mg "TooGreat" (ca "TooGreat")
  xg_BadEffort : mg "BadEffort" = some (.ref (ca "BadEffort"))
  xe_BadEffort : ExcI K mg "BadEffort" (ca "BadEffort")
  xg_BadImage : mg "BadImage" = some (.ref (ca "BadImage"))
  xe_BadImage : ExcI K mg "BadImage" (ca "BadImage")
  xg_Unfit : mg "Unfit" = some (.ref (ca "Unfit"))
  xe_Unfit : ExcI K mg "Unfit" (ca "Unfit")
  xg_BadText : mg "BadText" = some (.ref (ca "BadText"))
  xg_NotChecked : mg "NotChecked" = some (.ref (ca "NotChecked"))
  xg_NotRight : mg "NotRight" = some (.ref (ca "NotRight"))
  xg_NotLet : mg "NotLet" = some (.ref (ca "NotLet"))
  xg_BadListing : mg "BadListing" = some (.ref (ca "BadListing"))
  xg_Refused : mg "Refused" = some (.ref (ca "Refused"))
  xm_BadText_ : ExcM P w K mg "BadText" 1 (fun us => ⟨us, []⟩) ["place"] [0] (ca "BadText")
  xm_NotChecked_ : ExcM P w K mg "NotChecked" 1 (fun us => ⟨us, []⟩) ["what"] [0] (ca "NotChecked")
  xm_NotRight_ : ExcM P w K mg "NotRight" 1 (fun us => ⟨us, []⟩) ["what"] [0] (ca "NotRight")
  xm_NotLet_ : ExcM P w K mg "NotLet" 1 (fun us => ⟨us, []⟩) ["index"] [0] (ca "NotLet")
  xm_BadListing_ : ExcM P w K mg "BadListing" 1 (fun us => ⟨us, []⟩) ["line"] [0] (ca "BadListing")
  xm_Refused_ : ExcM P w K mg "Refused" 3 (fun us => ⟨us, []⟩) ["address", "row", "name"] [2, 1, 0] (ca "Refused")
  xm_Refused_address_row_name : ExcM P w K mg "Refused" 3 (fun us => ⟨[], (["address", "row", "name"] : List Str).zip us⟩) ["address", "row", "name"] [0, 1, 2] (ca "Refused")
  xm_BadListing_line : ExcM P w K mg "BadListing" 1 (fun us => ⟨[], (["line"] : List Str).zip us⟩) ["line"] [0] (ca "BadListing")
  xm_BadText_place : ExcM P w K mg "BadText" 1 (fun us => ⟨[], (["place"] : List Str).zip us⟩) ["place"] [0] (ca "BadText")
  xm_NotChecked_what : ExcM P w K mg "NotChecked" 1 (fun us => ⟨[], (["what"] : List Str).zip us⟩) ["what"] [0] (ca "NotChecked")
  xm_NotRight_what : ExcM P w K mg "NotRight" 1 (fun us => ⟨[], (["what"] : List Str).zip us⟩) ["what"] [0] (ca "NotRight")
  xm_NotLet_index : ExcM P w K mg "NotLet" 1 (fun us => ⟨[], (["index"] : List Str).zip us⟩) ["index"] [0] (ca "NotLet")
  xi_BadText : ∀ k b, isx "BadText" k = some b → ExcC K (ca k) ∧ PySem.W.kitOne K (.ref (ca k)) (.ref (ca "BadText")) = some b
  xi_NotChecked : ∀ k b, isx "NotChecked" k = some b → ExcC K (ca k) ∧ PySem.W.kitOne K (.ref (ca k)) (.ref (ca "NotChecked")) = some b
  xi_NotRight : ∀ k b, isx "NotRight" k = some b → ExcC K (ca k) ∧ PySem.W.kitOne K (.ref (ca k)) (.ref (ca "NotRight")) = some b
  xi_NotLet : ∀ k b, isx "NotLet" k = some b → ExcC K (ca k) ∧ PySem.W.kitOne K (.ref (ca k)) (.ref (ca "NotLet")) = some b
  xi_BadListing : ∀ k b, isx "BadListing" k = some b → ExcC K (ca k) ∧ PySem.W.kitOne K (.ref (ca k)) (.ref (ca "BadListing")) = some b
  xi_Refused : ∀ k b, isx "Refused" k = some b → ExcC K (ca k) ∧ PySem.W.kitOne K (.ref (ca k)) (.ref (ca "Refused")) = some b
  xi_BadAmounts : ∀ k b, isx "BadAmounts" k = some b → ExcC K (ca k) ∧ PySem.W.kitOne K (.ref (ca k)) (.ref (ca "BadAmounts")) = some b
  xi_BadArgs : ∀ k b, isx "BadArgs" k = some b → ExcC K (ca k) ∧ PySem.W.kitOne K (.ref (ca k)) (.ref (ca "BadArgs")) = some b
  xi_BadBook : ∀ k b, isx "BadBook" k = some b → ExcC K (ca k) ∧ PySem.W.kitOne K (.ref (ca k)) (.ref (ca "BadBook")) = some b
  xi_BadCore : ∀ k b, isx "BadCore" k = some b → ExcC K (ca k) ∧ PySem.W.kitOne K (.ref (ca k)) (.ref (ca "BadCore")) = some b
  xi_BadEffort : ∀ k b, isx "BadEffort" k = some b → ExcC K (ca k) ∧ PySem.W.kitOne K (.ref (ca k)) (.ref (ca "BadEffort")) = some b
  xi_BadGoal : ∀ k b, isx "BadGoal" k = some b → ExcC K (ca k) ∧ PySem.W.kitOne K (.ref (ca k)) (.ref (ca "BadGoal")) = some b
  xi_BadHints : ∀ k b, isx "BadHints" k = some b → ExcC K (ca k) ∧ PySem.W.kitOne K (.ref (ca k)) (.ref (ca "BadHints")) = some b
  xi_BadImage : ∀ k b, isx "BadImage" k = some b → ExcC K (ca k) ∧ PySem.W.kitOne K (.ref (ca k)) (.ref (ca "BadImage")) = some b
  xi_BadIndex : ∀ k b, isx "BadIndex" k = some b → ExcC K (ca k) ∧ PySem.W.kitOne K (.ref (ca k)) (.ref (ca "BadIndex")) = some b
  xi_BadKind : ∀ k b, isx "BadKind" k = some b → ExcC K (ca k) ∧ PySem.W.kitOne K (.ref (ca k)) (.ref (ca "BadKind")) = some b
  xi_BadLevels : ∀ k b, isx "BadLevels" k = some b → ExcC K (ca k) ∧ PySem.W.kitOne K (.ref (ca k)) (.ref (ca "BadLevels")) = some b
  xi_BadLimit : ∀ k b, isx "BadLimit" k = some b → ExcC K (ca k) ∧ PySem.W.kitOne K (.ref (ca k)) (.ref (ca "BadLimit")) = some b
  xi_BadLine : ∀ k b, isx "BadLine" k = some b → ExcC K (ca k) ∧ PySem.W.kitOne K (.ref (ca k)) (.ref (ca "BadLine")) = some b
  xi_BadLog : ∀ k b, isx "BadLog" k = some b → ExcC K (ca k) ∧ PySem.W.kitOne K (.ref (ca k)) (.ref (ca "BadLog")) = some b
  xi_BadMeasures : ∀ k b, isx "BadMeasures" k = some b → ExcC K (ca k) ∧ PySem.W.kitOne K (.ref (ca k)) (.ref (ca "BadMeasures")) = some b
  xi_BadName : ∀ k b, isx "BadName" k = some b → ExcC K (ca k) ∧ PySem.W.kitOne K (.ref (ca k)) (.ref (ca "BadName")) = some b
  xi_BadNeeds : ∀ k b, isx "BadNeeds" k = some b → ExcC K (ca k) ∧ PySem.W.kitOne K (.ref (ca k)) (.ref (ca "BadNeeds")) = some b
  xi_BadNever : ∀ k b, isx "BadNever" k = some b → ExcC K (ca k) ∧ PySem.W.kitOne K (.ref (ca k)) (.ref (ca "BadNever")) = some b
  xi_BadNumber : ∀ k b, isx "BadNumber" k = some b → ExcC K (ca k) ∧ PySem.W.kitOne K (.ref (ca k)) (.ref (ca "BadNumber")) = some b
  xi_BadPlacing : ∀ k b, isx "BadPlacing" k = some b → ExcC K (ca k) ∧ PySem.W.kitOne K (.ref (ca k)) (.ref (ca "BadPlacing")) = some b
  xi_BadPoint : ∀ k b, isx "BadPoint" k = some b → ExcC K (ca k) ∧ PySem.W.kitOne K (.ref (ca k)) (.ref (ca "BadPoint")) = some b
  xi_BadProgram : ∀ k b, isx "BadProgram" k = some b → ExcC K (ca k) ∧ PySem.W.kitOne K (.ref (ca k)) (.ref (ca "BadProgram")) = some b
  xi_BadRatio : ∀ k b, isx "BadRatio" k = some b → ExcC K (ca k) ∧ PySem.W.kitOne K (.ref (ca k)) (.ref (ca "BadRatio")) = some b
  xi_BadRow : ∀ k b, isx "BadRow" k = some b → ExcC K (ca k) ∧ PySem.W.kitOne K (.ref (ca k)) (.ref (ca "BadRow")) = some b
  xi_BadShowings : ∀ k b, isx "BadShowings" k = some b → ExcC K (ca k) ∧ PySem.W.kitOne K (.ref (ca k)) (.ref (ca "BadShowings")) = some b
  xi_BadSteps : ∀ k b, isx "BadSteps" k = some b → ExcC K (ca k) ∧ PySem.W.kitOne K (.ref (ca k)) (.ref (ca "BadSteps")) = some b
  xi_BadSystem : ∀ k b, isx "BadSystem" k = some b → ExcC K (ca k) ∧ PySem.W.kitOne K (.ref (ca k)) (.ref (ca "BadSystem")) = some b
  xi_BadTemplate : ∀ k b, isx "BadTemplate" k = some b → ExcC K (ca k) ∧ PySem.W.kitOne K (.ref (ca k)) (.ref (ca "BadTemplate")) = some b
  xi_BadVariable : ∀ k b, isx "BadVariable" k = some b → ExcC K (ca k) ∧ PySem.W.kitOne K (.ref (ca k)) (.ref (ca "BadVariable")) = some b
  xi_NoCells : ∀ k b, isx "NoCells" k = some b → ExcC K (ca k) ∧ PySem.W.kitOne K (.ref (ca k)) (.ref (ca "NoCells")) = some b
  xi_NotNew : ∀ k b, isx "NotNew" k = some b → ExcC K (ca k) ∧ PySem.W.kitOne K (.ref (ca k)) (.ref (ca "NotNew")) = some b
  xi_TooGreat : ∀ k b, isx "TooGreat" k = some b → ExcC K (ca k) ∧ PySem.W.kitOne K (.ref (ca k)) (.ref (ca "TooGreat")) = some b
  xi_Unfit : ∀ k b, isx "Unfit" k = some b → ExcC K (ca k) ∧ PySem.W.kitOne K (.ref (ca k)) (.ref (ca "Unfit")) = some b
  xi_ZeroBottom : ∀ k b, isx "ZeroBottom" k = some b → ExcC K (ca k) ∧ PySem.W.kitOne K (.ref (ca k)) (.ref (ca "ZeroBottom")) = some b
  xi_PaidError : ∀ k b, isx "PaidError" k = some b → ExcC K (ca k) ∧ PySem.W.kitOne K (.ref (ca k)) (.ref (ca "PaidError")) = some b
  xi_ValueError : ∀ k b, isx "ValueError" k = some b → ExcC K (ca k) ∧ PySem.W.kitOne K (.ref (ca k)) (.type "ValueError") = some b
  xr_place : ∀ c ∈ (["BadText"] : List Str), XfC K (ca c) ∧ PySem.W.findIn K (.ref (ca c)) "place" = some none
  xr_what : ∀ c ∈ (["NotChecked", "NotRight"] : List Str), XfC K (ca c) ∧ PySem.W.findIn K (.ref (ca c)) "what" = some none
  xr_index : ∀ c ∈ (["NotLet"] : List Str), XfC K (ca c) ∧ PySem.W.findIn K (.ref (ca c)) "index" = some none
  xr_line : ∀ c ∈ (["BadListing"] : List Str), XfC K (ca c) ∧ PySem.W.findIn K (.ref (ca c)) "line" = some none
  xr_name : ∀ c ∈ (["Refused"] : List Str), XfC K (ca c) ∧ PySem.W.findIn K (.ref (ca c)) "name" = some none
  xr_row : ∀ c ∈ (["Refused"] : List Str), XfC K (ca c) ∧ PySem.W.findIn K (.ref (ca c)) "row" = some none
  xr_address : ∀ c ∈ (["Refused"] : List Str), XfC K (ca c) ∧ PySem.W.findIn K (.ref (ca c)) "address" = some none
  z_ValueError : mg "ValueError" = none
  z_abs : mg "abs" = none
  z_bool : mg "bool" = none
  z_int : mg "int" = none
  z_isinstance : mg "isinstance" = none
  z_len : mg "len" = none
  z_list : mg "list" = none
  z_range : mg "range" = none
  z_str : mg "str" = none
  z_tuple : mg "tuple" = none
abbrev s__law_bag : Stmt := topS 43
theorem sc__law_bag : FnScope ["script"] ["script"] (defScope s__law_bag) := ⟨rfl, rfl, rfl, by decide +kernel, rfl, by decide +kernel, by decide +kernel⟩
noncomputable def m__law_bag (ca : Ev) : MS :=
    mRet (mLst (mCons (mB bList (mCons (mVar 0) (mNil))) (mCons (mC (.int 0)) (mCons (mC (.int 0)) (mNil)))))
theorem ok__law_bag {P : Program} {w : World} {K : PySem.W.Frag} {mg : Str → Option Value} {base : Heap} {ca : Ev} {fa : Addr} {fd : FuncData} {k : Nat} (F : Fun K "_law_bag" "_law_bag" s__law_bag fa fd) (T : Md P w K mg ca) :
    FnOk P w K mg base (L2.CX P w) (k + 1) fa fd ["script"] (spM K (ctb) 1 (mFn 1 (m__law_bag ca))) :=
  fn_ok F sc__law_bag fun cdv A outer s H E hr tk pas => by
    let ct : Ctb := ctb
    exact ((sss_one (ss_ret (se_lst (sa_cons (se_callTy cr_list rfl T.z_list PyProof.Rows.boot_list (sa_cons (se_var 0) sa_nil)) (sa_cons se_int (sa_cons se_int sa_nil)))))))
abbrev s__law_pick : Stmt := topS 44
theorem sc__law_pick : FnScope ["bag", "many", "at", "cell", "got"] ["bag", "many"] (defScope s__law_pick) := ⟨rfl, rfl, rfl, by decide +kernel, rfl, by decide +kernel, by decide +kernel⟩
noncomputable def m__law_pick (ca : Ev) : MS :=
    mSeq (mIfS (mTest (mOp oLt (mOp oGet (mVar 0) (mC (.int 2))) (mVar 1))) (mSeq (mSet 2 (mOp oGet (mVar 0) (mC (.int 1))))
    (mSeq (mSet 3 (mIf (mTest (mOp oLt (mVar 2) (mB bLen (mCons (mOp oGet (mVar 0) (mC (.int 0))) (mNil))))) (mOp oAdd (mOp oMulA (mC (.int 2)) (mB bAbs (mCons (mOp oGet (mOp oGet (mVar 0) (mC (.int 0))) (mVar 2)) (mNil)))) (mB bInt (mCons (mOp oLt (mOp oGet (mOp oGet (mVar 0) (mC (.int 0))) (mVar 2)) (mC (.int 0))) (mNil)))) (mOp oAdd (mOp oMulA (mC (.int 3)) (mVar 2)) (mC (.int 1)))))
    (mSeq (mIfS (mTest (mOp oLt (mVar 3) (mOp oPow (mC (.int 10)) (mC (.int 18))))) (mSeq (mSet 3 (mOp oMulA (mOp oAdd (mVar 3) (mC (.int 15485863))) (mOp oAdd (mOp oAdd (mOp oMulA (mVar 3) (mC (.int 32452843))) (mOp oMulA (mC (.int 49979687)) (mVar 2))) (mC (.int 982451653)))))
    (mSet 3 (mOp oAdd (mOp oFdiv (mOp oMulA (mVar 3) (mVar 3)) (mC (.int 1009))) (mOp oMulA (mVar 3) (mC (.int 7368787)))))) (mNx))
    (mSeq (mAsg (mOp oAdd (mVar 2) (mC (.int 1))) (gmSub oPut (mVar 0) (mC (.int 1))))
    (mAsg (mVar 3) (gmSub oPut (mVar 0) (mC (.int 2)))))))) (mNx))
    (mSeq (mSet 4 (mOp oMod (mB bInt (mCons (mOp oGet (mVar 0) (mC (.int 2))) (mNil))) (mVar 1)))
    (mSeq (mAsg (mOp oFdiv (mOp oGet (mVar 0) (mC (.int 2))) (mVar 1)) (gmSub oPut (mVar 0) (mC (.int 2))))
    (mRet (mVar 4))))
theorem ok__law_pick {P : Program} {w : World} {K : PySem.W.Frag} {mg : Str → Option Value} {base : Heap} {ca : Ev} {fa : Addr} {fd : FuncData} {k : Nat} (F : Fun K "_law_pick" "_law_pick" s__law_pick fa fd) (T : Md P w K mg ca) :
    FnOk P w K mg base (L2.CX P w) (k + 1) fa fd ["bag", "many"] (spM K (ctb) 2 (mFn 5 (m__law_pick ca))) :=
  fn_ok F sc__law_pick fun cdv A outer s H E hr tk pas => by
    let ct : Ctb := ctb
    exact ((sss_cons (ss_if (st_cmp op_ltM (se_ix (ix_A hr) (se_var 0) se_int (fun _ _ => rfl)) (se_var 1) (nomark _)) (sss_cons (ss_set (i := 2) sc__law_pick.nd rfl (Or.inl rfl) (se_ix (ix_A hr) (se_var 0) se_int (fun _ _ => rfl)))
    (sss_cons (ss_set (i := 3) sc__law_pick.nd rfl (Or.inl rfl) (se_if (st_cmp op_ltM (se_var 2) (se_callB cr_len rfl T.z_len PySem.boot_len (sa_cons (se_ix (ix_A hr) (se_var 0) se_int (fun _ _ => rfl)) sa_nil)) (nomark _)) (se_op op_addM (se_op op_mulA se_int (se_callB cr_abs rfl T.z_abs (by decide +kernel) (sa_cons (se_ix (ix_A hr) (se_ix (ix_A hr) (se_var 0) se_int (fun _ _ => rfl)) (se_var 2) (fun _ _ => rfl)) sa_nil))) (se_callTy cr_int rfl T.z_int PyProof.Rows.boot_int (sa_cons (se_cmp op_ltM (se_ix (ix_A hr) (se_ix (ix_A hr) (se_var 0) se_int (fun _ _ => rfl)) (se_var 2) (fun _ _ => rfl)) se_int (nomark _)) sa_nil))) (se_op op_addM (se_op op_mulA se_int (se_var 2)) se_int)))
    (sss_cons (ss_if (st_cmp op_ltM (se_var 3) (se_op op_powM se_int se_int) (nomark _)) (sss_cons (ss_set (i := 3) sc__law_pick.nd rfl (Or.inl rfl) (se_op op_mulA (se_op op_addM (se_var 3) se_int) (se_op op_addM (se_op op_addM (se_op op_mulA (se_var 3) se_int) (se_op op_mulA se_int (se_var 2))) se_int)))
    (sss_one (ss_set (i := 3) sc__law_pick.nd rfl (Or.inl rfl) (se_op op_addM (se_op op_fdivM (se_op op_mulA (se_var 3) (se_var 3)) se_int) (se_op op_mulA (se_var 3) se_int))))) sss_nil)
    (sss_cons (ss_asg (se_op op_addM (se_var 2) se_int) (sg_sub (ct := ct) (W := (fun c d _ H' => E c d H')) (se_var 0) se_int (set_A hr)))
    (sss_one (ss_asg (se_var 3) (sg_sub (ct := ct) (W := (fun c d _ H' => E c d H')) (se_var 0) se_int (set_A hr)))))))) sss_nil)
    (sss_cons (ss_set (i := 4) sc__law_pick.nd rfl (Or.inl rfl) (se_op op_modM (se_callTy cr_int rfl T.z_int PyProof.Rows.boot_int (sa_cons (se_ix (ix_A hr) (se_var 0) se_int (fun _ _ => rfl)) sa_nil)) (se_var 1)))
    (sss_cons (ss_asg (se_op op_fdivM (se_ix (ix_A hr) (se_var 0) se_int (fun _ _ => rfl)) (se_var 1)) (sg_sub (ct := ct) (W := (fun c d _ H' => E c d H')) (se_var 0) se_int (set_A hr)))
    (sss_one (ss_ret (se_var 4)))))))
abbrev s__law_word : Stmt := topS 45
theorem sc__law_word : FnScope ["bag", "capital", "used", "small", "large", "word", "k", "at"] ["bag", "capital", "used"] (defScope s__law_word) := ⟨rfl, rfl, rfl, by decide +kernel, rfl, by decide +kernel, by decide +kernel⟩
noncomputable def m__law_word (ca : Ev) (f__law_pick : FnM) : MS :=
    mSeq (mAsg (mTup (mCons (mC (.str "abcdefghijklmnopqrstuvwxyz")) (mCons (mC (.str "ABCDEFGHIJKLMNOPQRSTUVWXYZ")) (mNil)))) (gmSeq 2 (gmCons (gmName 3) (gmCons (gmName 4) (gmNil)))))
    (mSeq (mSet 5 (mOp oGet (mOp oGet (mLst (mCons (mVar 3) (mCons (mVar 4) (mNil)))) (mB bInt (mCons (mVar 1) (mNil)))) (mCall 2 f__law_pick (mCons (mVar 0) (mCons (mC (.int 26)) (mNil))))))
    (mSeq (mFor (miRng1 (mCall 2 f__law_pick (mCons (mVar 0) (mCons (mC (.int 5)) (mNil))))) (gmName 6) (mSet 5 (mOp oAdd (mVar 5) (mOp oGet (mOp oAdd (mOp oAdd (mVar 3) (mVar 4)) (mC (.str "0123456789"))) (mCall 2 f__law_pick (mCons (mVar 0) (mCons (mC (.int 62)) (mNil))))))))
    (mSeq (mIfS (mOr (mTest (mOp oInF (mVar 5) (mVar 2))) (mTest (mOp oInF (mVar 5) (mTup (mCons (mC (.str "def")) (mCons (mC (.str "else")) (mCons (mC (.str "give")) (mCons (mC (.str "if")) (mCons (mC (.str "kind")) (mCons (mC (.str "let")) (mCons (mC (.str "match")) (mCons (mC (.str "whole")) (mNil))))))))))))) (mSet 5 (mOp oGet (mLc (miRng1 (mOp oAdd (mB bLen (mCons (mVar 2) (mNil))) (mC (.int 1)))) (gmName 7) (mTest (mOp oNotInF (mOp oAdd (mSl (mVar 5) (moN) (moS (mC (.int 4)))) (mB bStr (mCons (mVar 7) (mNil)))) (mVar 2))) (mOp oAdd (mSl (mVar 5) (moN) (moS (mC (.int 4)))) (mB bStr (mCons (mVar 7) (mNil)))) [7]) (mC (.int 0)))) (mNx))
    (mSeq (mDrop (mMset lAppend (mVar 2) (mCons (mVar 5) (mNil))))
    (mRet (mVar 5))))))
theorem ok__law_word {P : Program} {w : World} {K : PySem.W.Frag} {mg : Str → Option Value} {base : Heap} {ca : Ev} {fa : Addr} {fd : FuncData} {k : Nat} (F : Fun K "_law_word" "_law_word" s__law_word fa fd) (T : Md P w K mg ca) {f__law_pick : FnM} (F__law_pick : FnI P w K mg base (ctb) k "_law_pick" ["bag", "many"] f__law_pick) :
    FnOk P w K mg base (L2.CX P w) (k + 1) fa fd ["bag", "capital", "used"] (spM K (ctb) 3 (mFn 8 (m__law_word ca f__law_pick))) :=
  fn_ok F sc__law_word fun cdv A outer s H E hr tk pas => by
    let ct : Ctb := ctb
    exact ((sss_cons (ss_asg (se_tup (sa_cons se_str (sa_cons se_str sa_nil))) (sg_seq rfl (sgs_cons (sg_name (i := 3) sc__law_word.nd rfl (Or.inl rfl)) (sgs_cons (sg_name (i := 4) sc__law_word.nd rfl (Or.inl rfl)) sgs_nil))))
    (sss_cons (ss_set (i := 5) sc__law_word.nd rfl (Or.inr rfl) (se_ix (ix_A hr) (se_ix (ix_A hr) (se_lst (sa_cons (se_var 3) (sa_cons (se_var 4) sa_nil))) (se_callTy cr_int rfl T.z_int PyProof.Rows.boot_int (sa_cons (se_var 1) sa_nil)) (fun _ _ => rfl)) (se_callI F__law_pick rfl hr rfl tk (sa_cons (se_var 0) (sa_cons se_int sa_nil))) (fun _ _ => rfl)))
    (sss_cons (ss_for pas rfl (si_rng1 rfl T.z_range (se_callI F__law_pick rfl hr rfl tk (sa_cons (se_var 0) (sa_cons se_int sa_nil)))) (sg_name (i := 6) sc__law_word.nd rfl (Or.inl rfl)) (sss_one (ss_set (i := 5) sc__law_word.nd rfl (Or.inr rfl) (se_op op_addM (se_var 5) (se_ix (ix_A hr) (se_op op_addM (se_op op_addM (se_var 3) (se_var 4)) se_str) (se_callI F__law_pick rfl hr rfl tk (sa_cons (se_var 0) (sa_cons se_int sa_nil))) (fun _ _ => rfl))))))
    (sss_cons (ss_if (st_w (sw_or (st_cmp (op_inF hr) (se_var 5) (se_var 2) rfl) (sw_or1 (st_cmp (op_inF hr) (se_var 5) (se_tup (sa_cons se_str (sa_cons se_str (sa_cons se_str (sa_cons se_str (sa_cons se_str (sa_cons se_str (sa_cons se_str (sa_cons se_str sa_nil))))))))) rfl)))) (sss_one (ss_set (i := 5) sc__law_word.nd rfl (Or.inr rfl) (se_ix (ix_A hr) (se_lc [("at", 7)] rfl sc__law_word.nd (si_rng1 rfl T.z_range (se_op op_addM (se_callB cr_len rfl T.z_len PySem.boot_len (sa_cons (se_var 2) sa_nil)) se_int)) (blkOk_by (own := [("at", 7)]) (N := ["bag", "capital", "used", "small", "large", "word", "k", "at"]) (sc := defScope s__law_word) (by decide +kernel)) (fun _ _ _ _ _ => (sgv_name (vs := [7]) (i := 7) sc__law_word.nd rfl (Or.inl rfl) (by decide))) (fun _ _ _ _ _ => (sts_one (st_cmp (op_notInF hr) (se_op op_addM (se_sl (se_var 5) so_none (so_some se_int)) (se_callTy cr_strM rfl T.z_str PyProof.Rows.boot_str (sa_cons (se_var 7) sa_nil))) (se_var 2) rfl))) (fun _ _ _ _ _ => (se_op op_addM (se_sl (se_var 5) so_none (so_some se_int)) (se_callTy cr_strM rfl T.z_str PyProof.Rows.boot_str (sa_cons (se_var 7) sa_nil))))) se_int (fun _ _ => rfl)))) sss_nil)
    (sss_cons (ss_expr (se_lm PySem.F.slot_list_append PySem.F.type_list_append mt_appendM (se_var 2) (sa_cons (se_var 5) sa_nil)))
    (sss_one (ss_ret (se_var 5)))))))))
abbrev s__law_same : Stmt := topS 46
theorem sc__law_same : FnScope ["found", "due", "k"] ["found", "due"] (defScope s__law_same) := ⟨rfl, rfl, rfl, by decide +kernel, rfl, by decide +kernel, by decide +kernel⟩
noncomputable def m__law_same (ca : Ev) (f__law_same : FnM) : MS :=
    mSeq (mIfS (mOr (mTest (mOp oIsN (mVar 1) (mC .non))) (mTest (mOp oIsN (mVar 0) (mC .non)))) (mRet (mAndV (mOp oIsN (mVar 0) (mC .non)) (mOp oIsN (mVar 1) (mC .non)))) (mNx))
    (mSeq (mIfS (mTest (mIsi "tuple" (mVar 1))) (mSeq (mIfS (mOr (mNot (mTest (mIsi "tuple" (mVar 0)))) (mTest (mOp oNeF (mB bLen (mCons (mVar 0) (mNil))) (mB bLen (mCons (mVar 1) (mNil)))))) (mRet (mC (.bl false))) (mNx))
    (mRet (mOp oEqF (mLc (miRng1 (mB bLen (mCons (mVar 1) (mNil)))) (gmName 2) (mNot (mTest (mCall 2 f__law_same (mCons (mOp oGet (mVar 0) (mVar 2)) (mCons (mOp oGet (mVar 1) (mVar 2)) (mNil)))))) (mVar 2) [2]) (mLst (mNil))))) (mNx))
    (mRet (mAndV (mOp oEqF (mIsi "bool" (mVar 0)) (mIsi "bool" (mVar 1))) (mAndV (mOp oEqF (mIsi "str" (mVar 0)) (mIsi "str" (mVar 1))) (mOp oEqF (mVar 0) (mVar 1))))))
theorem ok__law_same {P : Program} {w : World} {K : PySem.W.Frag} {mg : Str → Option Value} {base : Heap} {ca : Ev} {fa : Addr} {fd : FuncData} {k : Nat} (F : Fun K "_law_same" "_law_same" s__law_same fa fd) (T : Md P w K mg ca) {f__law_same : FnM} (F__law_same : FnI P w K mg base (ctb) k "_law_same" ["found", "due"] f__law_same) :
    FnOk P w K mg base (L2.CX P w) (k + 1) fa fd ["found", "due"] (spM K (ctb) 2 (mFn 3 (m__law_same ca f__law_same))) :=
  fn_ok F sc__law_same fun cdv A outer s H E hr tk pas => by
    let ct : Ctb := ctb
    exact ((sss_cons (ss_if (st_w (sw_or (st_cmp op_isM (se_var 1) se_non (nomark _)) (sw_or1 (st_cmp op_isM (se_var 0) se_non (nomark _))))) (sss_one (ss_ret (se_and (se_cmp op_isM (se_var 0) se_non (nomark _)) (se_and1 (se_cmp op_isM (se_var 1) se_non (nomark _)))))) sss_nil)
    (sss_cons (ss_if (st_val (se_isi (by decide) rfl T.z_isinstance rfl T.z_tuple PyProof.Rows.boot_tuple (se_var 1))) (sss_cons (ss_if (st_w (sw_or (st_not (st_val (se_isi (by decide) rfl T.z_isinstance rfl T.z_tuple PyProof.Rows.boot_tuple (se_var 0)))) (sw_or1 (st_cmp (op_neF hr.units) (se_callB cr_len rfl T.z_len PySem.boot_len (sa_cons (se_var 0) sa_nil)) (se_callB cr_len rfl T.z_len PySem.boot_len (sa_cons (se_var 1) sa_nil)) (nomark _))))) (sss_one (ss_ret se_bl)) sss_nil)
    (sss_one (ss_ret (se_cmp (op_eqF hr.units) (se_lc [("k", 2)] rfl sc__law_same.nd (si_rng1 rfl T.z_range (se_callB cr_len rfl T.z_len PySem.boot_len (sa_cons (se_var 1) sa_nil))) (blkOk_by (own := [("k", 2)]) (N := ["found", "due", "k"]) (sc := defScope s__law_same) (by decide +kernel)) (fun _ _ _ _ _ => (sgv_name (vs := [2]) (i := 2) sc__law_same.nd rfl (Or.inl rfl) (by decide))) (fun _ _ _ _ _ => (sts_one (st_not (st_val (se_callI F__law_same rfl hr rfl takes0 (sa_cons (se_ix (ix_A hr) (se_var 0) (se_var 2) (fun _ _ => rfl)) (sa_cons (se_ix (ix_A hr) (se_var 1) (se_var 2) (fun _ _ => rfl)) sa_nil))))))) (fun _ _ _ _ _ => (se_var 2))) (se_lst sa_nil) (nomark _))))) sss_nil)
    (sss_one (ss_ret (se_and (se_cmp (op_eqF hr.units) (se_isi (by decide) rfl T.z_isinstance rfl T.z_bool PyProof.Rows.boot_bool (se_var 0)) (se_isi (by decide) rfl T.z_isinstance rfl T.z_bool PyProof.Rows.boot_bool (se_var 1)) (nomark _)) (se_and (se_cmp (op_eqF hr.units) (se_isi (by decide) rfl T.z_isinstance rfl T.z_str PyProof.Rows.boot_str (se_var 0)) (se_isi (by decide) rfl T.z_isinstance rfl T.z_str PyProof.Rows.boot_str (se_var 1)) (nomark _)) (se_and1 (se_cmp (op_eqF hr.units) (se_var 0) (se_var 1) (nomark _))))))))))
abbrev s__law_marks : Stmt := topS 47
theorem sc__law_marks : FnScope ["e", "found"] ["e"] (defScope s__law_marks) := ⟨rfl, rfl, rfl, by decide +kernel, rfl, by decide +kernel, by decide +kernel⟩
noncomputable def m__law_marks (ca : Ev) : MS :=
    mSeq (mSet 1 (mLst (mCons (mIsX ca.cls (isx "BadText") (mVar 0)) (mCons (mIsX ca.cls (isx "NotChecked") (mVar 0)) (mCons (mIsX ca.cls (isx "NotRight") (mVar 0)) (mCons (mIsX ca.cls (isx "NotLet") (mVar 0)) (mNil)))))))
    (mSeq (mSet 1 (mOp oAdd (mVar 1) (mLst (mCons (mIsX ca.cls (isx "BadListing") (mVar 0)) (mCons (mIsX ca.cls (isx "Refused") (mVar 0)) (mNil))))))
    (mSeq (mSet 1 (mOp oAdd (mVar 1) (mLst (mCons (mIsX ca.cls (isx "BadAmounts") (mVar 0)) (mCons (mIsX ca.cls (isx "BadArgs") (mVar 0)) (mCons (mIsX ca.cls (isx "BadBook") (mVar 0)) (mCons (mIsX ca.cls (isx "BadCore") (mVar 0)) (mNil))))))))
    (mSeq (mSet 1 (mOp oAdd (mVar 1) (mLst (mCons (mIsX ca.cls (isx "BadEffort") (mVar 0)) (mCons (mIsX ca.cls (isx "BadGoal") (mVar 0)) (mCons (mIsX ca.cls (isx "BadHints") (mVar 0)) (mCons (mIsX ca.cls (isx "BadImage") (mVar 0)) (mNil))))))))
    (mSeq (mSet 1 (mOp oAdd (mVar 1) (mLst (mCons (mIsX ca.cls (isx "BadIndex") (mVar 0)) (mCons (mIsX ca.cls (isx "BadKind") (mVar 0)) (mCons (mIsX ca.cls (isx "BadLevels") (mVar 0)) (mCons (mIsX ca.cls (isx "BadLimit") (mVar 0)) (mNil))))))))
    (mSeq (mSet 1 (mOp oAdd (mVar 1) (mLst (mCons (mIsX ca.cls (isx "BadLine") (mVar 0)) (mCons (mIsX ca.cls (isx "BadLog") (mVar 0)) (mCons (mIsX ca.cls (isx "BadMeasures") (mVar 0)) (mCons (mIsX ca.cls (isx "BadName") (mVar 0)) (mNil))))))))
    (mSeq (mSet 1 (mOp oAdd (mVar 1) (mLst (mCons (mIsX ca.cls (isx "BadNeeds") (mVar 0)) (mCons (mIsX ca.cls (isx "BadNever") (mVar 0)) (mCons (mIsX ca.cls (isx "BadNumber") (mVar 0)) (mCons (mIsX ca.cls (isx "BadPlacing") (mVar 0)) (mNil))))))))
    (mSeq (mSet 1 (mOp oAdd (mVar 1) (mLst (mCons (mIsX ca.cls (isx "BadPoint") (mVar 0)) (mCons (mIsX ca.cls (isx "BadProgram") (mVar 0)) (mCons (mIsX ca.cls (isx "BadRatio") (mVar 0)) (mCons (mIsX ca.cls (isx "BadRow") (mVar 0)) (mNil))))))))
    (mSeq (mSet 1 (mOp oAdd (mVar 1) (mLst (mCons (mIsX ca.cls (isx "BadShowings") (mVar 0)) (mCons (mIsX ca.cls (isx "BadSteps") (mVar 0)) (mCons (mIsX ca.cls (isx "BadSystem") (mVar 0)) (mCons (mIsX ca.cls (isx "BadTemplate") (mVar 0)) (mNil))))))))
    (mSeq (mSet 1 (mOp oAdd (mVar 1) (mLst (mCons (mIsX ca.cls (isx "BadVariable") (mVar 0)) (mCons (mIsX ca.cls (isx "NoCells") (mVar 0)) (mCons (mIsX ca.cls (isx "NotNew") (mVar 0)) (mCons (mIsX ca.cls (isx "TooGreat") (mVar 0)) (mNil))))))))
    (mRet (mOp oAdd (mVar 1) (mLst (mCons (mIsX ca.cls (isx "Unfit") (mVar 0)) (mCons (mIsX ca.cls (isx "ZeroBottom") (mVar 0)) (mNil)))))))))))))))
theorem ok__law_marks {P : Program} {w : World} {K : PySem.W.Frag} {mg : Str → Option Value} {base : Heap} {ca : Ev} {fa : Addr} {fd : FuncData} {k : Nat} (F : Fun K "_law_marks" "_law_marks" s__law_marks fa fd) (T : Md P w K mg ca) :
    FnOk P w K mg base (L2.CX P w) (k + 1) fa fd ["e"] (spM K (ctb) 1 (mFn 2 (m__law_marks ca))) :=
  fn_ok F sc__law_marks fun cdv A outer s H E hr tk pas => by
    let ct : Ctb := ctb
    exact ((sss_cons (ss_set (i := 1) sc__law_marks.nd rfl (Or.inl rfl) (se_lst (sa_cons (se_isX T.xi_BadText rfl T.z_isinstance (se_var 0) (pe_glob (v := .ref (ca "BadText")) rfl T.xg_BadText rfl) (fun u z => z)) (sa_cons (se_isX T.xi_NotChecked rfl T.z_isinstance (se_var 0) (pe_glob (v := .ref (ca "NotChecked")) rfl T.xg_NotChecked rfl) (fun u z => z)) (sa_cons (se_isX T.xi_NotRight rfl T.z_isinstance (se_var 0) (pe_glob (v := .ref (ca "NotRight")) rfl T.xg_NotRight rfl) (fun u z => z)) (sa_cons (se_isX T.xi_NotLet rfl T.z_isinstance (se_var 0) (pe_glob (v := .ref (ca "NotLet")) rfl T.xg_NotLet rfl) (fun u z => z)) sa_nil))))))
    (sss_cons (ss_set (i := 1) sc__law_marks.nd rfl (Or.inl rfl) (se_op op_addM (se_var 1) (se_lst (sa_cons (se_isX T.xi_BadListing rfl T.z_isinstance (se_var 0) (pe_glob (v := .ref (ca "BadListing")) rfl T.xg_BadListing rfl) (fun u z => z)) (sa_cons (se_isX T.xi_Refused rfl T.z_isinstance (se_var 0) (pe_glob (v := .ref (ca "Refused")) rfl T.xg_Refused rfl) (fun u z => z)) sa_nil)))))
    (sss_cons (ss_set (i := 1) sc__law_marks.nd rfl (Or.inl rfl) (se_op op_addM (se_var 1) (se_lst (sa_cons (se_isX T.xi_BadAmounts rfl T.z_isinstance (se_var 0) (pe_glob (v := .ref (ca "BadAmounts")) rfl T.xg_BadAmounts rfl) (fun u z => z)) (sa_cons (se_isX T.xi_BadArgs rfl T.z_isinstance (se_var 0) (pe_glob (v := .ref (ca "BadArgs")) rfl T.xg_BadArgs rfl) (fun u z => z)) (sa_cons (se_isX T.xi_BadBook rfl T.z_isinstance (se_var 0) (pe_glob (v := .ref (ca "BadBook")) rfl T.xg_BadBook rfl) (fun u z => z)) (sa_cons (se_isX T.xi_BadCore rfl T.z_isinstance (se_var 0) (pe_glob (v := .ref (ca "BadCore")) rfl T.xg_BadCore rfl) (fun u z => z)) sa_nil)))))))
    (sss_cons (ss_set (i := 1) sc__law_marks.nd rfl (Or.inl rfl) (se_op op_addM (se_var 1) (se_lst (sa_cons (se_isX T.xi_BadEffort rfl T.z_isinstance (se_var 0) (pe_glob (v := .ref (ca "BadEffort")) rfl T.xg_BadEffort rfl) (fun u z => z)) (sa_cons (se_isX T.xi_BadGoal rfl T.z_isinstance (se_var 0) (pe_glob (v := .ref (ca "BadGoal")) rfl T.xg_BadGoal rfl) (fun u z => z)) (sa_cons (se_isX T.xi_BadHints rfl T.z_isinstance (se_var 0) (pe_glob (v := .ref (ca "BadHints")) rfl T.xg_BadHints rfl) (fun u z => z)) (sa_cons (se_isX T.xi_BadImage rfl T.z_isinstance (se_var 0) (pe_glob (v := .ref (ca "BadImage")) rfl T.xg_BadImage rfl) (fun u z => z)) sa_nil)))))))
    (sss_cons (ss_set (i := 1) sc__law_marks.nd rfl (Or.inl rfl) (se_op op_addM (se_var 1) (se_lst (sa_cons (se_isX T.xi_BadIndex rfl T.z_isinstance (se_var 0) (pe_glob (v := .ref (ca "BadIndex")) rfl T.xg_BadIndex rfl) (fun u z => z)) (sa_cons (se_isX T.xi_BadKind rfl T.z_isinstance (se_var 0) (pe_glob (v := .ref (ca "BadKind")) rfl T.xg_BadKind rfl) (fun u z => z)) (sa_cons (se_isX T.xi_BadLevels rfl T.z_isinstance (se_var 0) (pe_glob (v := .ref (ca "BadLevels")) rfl T.xg_BadLevels rfl) (fun u z => z)) (sa_cons (se_isX T.xi_BadLimit rfl T.z_isinstance (se_var 0) (pe_glob (v := .ref (ca "BadLimit")) rfl T.xg_BadLimit rfl) (fun u z => z)) sa_nil)))))))
    (sss_cons (ss_set (i := 1) sc__law_marks.nd rfl (Or.inl rfl) (se_op op_addM (se_var 1) (se_lst (sa_cons (se_isX T.xi_BadLine rfl T.z_isinstance (se_var 0) (pe_glob (v := .ref (ca "BadLine")) rfl T.xg_BadLine rfl) (fun u z => z)) (sa_cons (se_isX T.xi_BadLog rfl T.z_isinstance (se_var 0) (pe_glob (v := .ref (ca "BadLog")) rfl T.xg_BadLog rfl) (fun u z => z)) (sa_cons (se_isX T.xi_BadMeasures rfl T.z_isinstance (se_var 0) (pe_glob (v := .ref (ca "BadMeasures")) rfl T.xg_BadMeasures rfl) (fun u z => z)) (sa_cons (se_isX T.xi_BadName rfl T.z_isinstance (se_var 0) (pe_glob (v := .ref (ca "BadName")) rfl T.xg_BadName rfl) (fun u z => z)) sa_nil)))))))
    (sss_cons (ss_set (i := 1) sc__law_marks.nd rfl (Or.inl rfl) (se_op op_addM (se_var 1) (se_lst (sa_cons (se_isX T.xi_BadNeeds rfl T.z_isinstance (se_var 0) (pe_glob (v := .ref (ca "BadNeeds")) rfl T.xg_BadNeeds rfl) (fun u z => z)) (sa_cons (se_isX T.xi_BadNever rfl T.z_isinstance (se_var 0) (pe_glob (v := .ref (ca "BadNever")) rfl T.xg_BadNever rfl) (fun u z => z)) (sa_cons (se_isX T.xi_BadNumber rfl T.z_isinstance (se_var 0) (pe_glob (v := .ref (ca "BadNumber")) rfl T.xg_BadNumber rfl) (fun u z => z)) (sa_cons (se_isX T.xi_BadPlacing rfl T.z_isinstance (se_var 0) (pe_glob (v := .ref (ca "BadPlacing")) rfl T.xg_BadPlacing rfl) (fun u z => z)) sa_nil)))))))
    (sss_cons (ss_set (i := 1) sc__law_marks.nd rfl (Or.inl rfl) (se_op op_addM (se_var 1) (se_lst (sa_cons (se_isX T.xi_BadPoint rfl T.z_isinstance (se_var 0) (pe_glob (v := .ref (ca "BadPoint")) rfl T.xg_BadPoint rfl) (fun u z => z)) (sa_cons (se_isX T.xi_BadProgram rfl T.z_isinstance (se_var 0) (pe_glob (v := .ref (ca "BadProgram")) rfl T.xg_BadProgram rfl) (fun u z => z)) (sa_cons (se_isX T.xi_BadRatio rfl T.z_isinstance (se_var 0) (pe_glob (v := .ref (ca "BadRatio")) rfl T.xg_BadRatio rfl) (fun u z => z)) (sa_cons (se_isX T.xi_BadRow rfl T.z_isinstance (se_var 0) (pe_glob (v := .ref (ca "BadRow")) rfl T.xg_BadRow rfl) (fun u z => z)) sa_nil)))))))
    (sss_cons (ss_set (i := 1) sc__law_marks.nd rfl (Or.inl rfl) (se_op op_addM (se_var 1) (se_lst (sa_cons (se_isX T.xi_BadShowings rfl T.z_isinstance (se_var 0) (pe_glob (v := .ref (ca "BadShowings")) rfl T.xg_BadShowings rfl) (fun u z => z)) (sa_cons (se_isX T.xi_BadSteps rfl T.z_isinstance (se_var 0) (pe_glob (v := .ref (ca "BadSteps")) rfl T.xg_BadSteps rfl) (fun u z => z)) (sa_cons (se_isX T.xi_BadSystem rfl T.z_isinstance (se_var 0) (pe_glob (v := .ref (ca "BadSystem")) rfl T.xg_BadSystem rfl) (fun u z => z)) (sa_cons (se_isX T.xi_BadTemplate rfl T.z_isinstance (se_var 0) (pe_glob (v := .ref (ca "BadTemplate")) rfl T.xg_BadTemplate rfl) (fun u z => z)) sa_nil)))))))
    (sss_cons (ss_set (i := 1) sc__law_marks.nd rfl (Or.inl rfl) (se_op op_addM (se_var 1) (se_lst (sa_cons (se_isX T.xi_BadVariable rfl T.z_isinstance (se_var 0) (pe_glob (v := .ref (ca "BadVariable")) rfl T.xg_BadVariable rfl) (fun u z => z)) (sa_cons (se_isX T.xi_NoCells rfl T.z_isinstance (se_var 0) (pe_glob (v := .ref (ca "NoCells")) rfl T.xg_NoCells rfl) (fun u z => z)) (sa_cons (se_isX T.xi_NotNew rfl T.z_isinstance (se_var 0) (pe_glob (v := .ref (ca "NotNew")) rfl T.xg_NotNew rfl) (fun u z => z)) (sa_cons (se_isX T.xi_TooGreat rfl T.z_isinstance (se_var 0) (pe_glob (v := .ref (ca "TooGreat")) rfl T.xg_TooGreat rfl) (fun u z => z)) sa_nil)))))))
    (sss_one (ss_ret (se_op op_addM (se_var 1) (se_lst (sa_cons (se_isX T.xi_Unfit rfl T.z_isinstance (se_var 0) (pe_glob (v := .ref (ca "Unfit")) rfl T.xg_Unfit rfl) (fun u z => z)) (sa_cons (se_isX T.xi_ZeroBottom rfl T.z_isinstance (se_var 0) (pe_glob (v := .ref (ca "ZeroBottom")) rfl T.xg_ZeroBottom rfl) (fun u z => z)) sa_nil)))))))))))))))))
abbrev s__law_made : Stmt := topS 48
theorem sc__law_made : FnScope ["words", "place", "what", "index", "name", "found"] ["words", "place", "what", "index", "name"] (defScope s__law_made) := ⟨rfl, rfl, rfl, by decide +kernel, rfl, by decide +kernel, by decide +kernel⟩
noncomputable def m__law_made (ca : Ev) : MS :=
    mSeq (mSet 5 (mLst (mCons (mMkF "BadText" (ca "BadText") 1 ["place"] [0] (mCons (mVar 1) (mNil))) (mCons (mMkF "NotChecked" (ca "NotChecked") 1 ["what"] [0] (mCons (mVar 2) (mNil))) (mCons (mMkF "NotRight" (ca "NotRight") 1 ["what"] [0] (mCons (mVar 2) (mNil))) (mCons (mMkF "NotLet" (ca "NotLet") 1 ["index"] [0] (mCons (mVar 3) (mNil))) (mCons (mMkF "BadListing" (ca "BadListing") 1 ["line"] [0] (mCons (mVar 1) (mNil))) (mCons (mMkF "Refused" (ca "Refused") 3 ["address", "row", "name"] [2, 1, 0] (mCons (mVar 4) (mCons (mVar 3) (mCons (mVar 1) (mNil))))) (mNil)))))))))
    (mSeq (mSet 5 (mOp oAdd (mVar 5) (mLst (mCons (mMkX "BadAmounts" (ca "BadAmounts") (mVar 0)) (mCons (mMkX "BadArgs" (ca "BadArgs") (mVar 0)) (mCons (mMkX "BadBook" (ca "BadBook") (mVar 0)) (mCons (mMkX "BadCore" (ca "BadCore") (mVar 0)) (mCons (mMkX "BadEffort" (ca "BadEffort") (mVar 0)) (mCons (mMkX "BadGoal" (ca "BadGoal") (mVar 0)) (mNil))))))))))
    (mSeq (mSet 5 (mOp oAdd (mVar 5) (mLst (mCons (mMkX "BadHints" (ca "BadHints") (mVar 0)) (mCons (mMkX "BadImage" (ca "BadImage") (mVar 0)) (mCons (mMkX "BadIndex" (ca "BadIndex") (mVar 0)) (mCons (mMkX "BadKind" (ca "BadKind") (mVar 0)) (mCons (mMkX "BadLevels" (ca "BadLevels") (mVar 0)) (mCons (mMkX "BadLimit" (ca "BadLimit") (mVar 0)) (mNil))))))))))
    (mSeq (mSet 5 (mOp oAdd (mVar 5) (mLst (mCons (mMkX "BadLine" (ca "BadLine") (mVar 0)) (mCons (mMkX "BadLog" (ca "BadLog") (mVar 0)) (mCons (mMkX "BadMeasures" (ca "BadMeasures") (mVar 0)) (mCons (mMkX "BadName" (ca "BadName") (mVar 0)) (mCons (mMkX "BadNeeds" (ca "BadNeeds") (mVar 0)) (mCons (mMkX "BadNever" (ca "BadNever") (mVar 0)) (mNil))))))))))
    (mSeq (mSet 5 (mOp oAdd (mVar 5) (mLst (mCons (mMkX "BadNumber" (ca "BadNumber") (mVar 0)) (mCons (mMkX "BadPlacing" (ca "BadPlacing") (mVar 0)) (mCons (mMkX "BadPoint" (ca "BadPoint") (mVar 0)) (mCons (mMkX "BadProgram" (ca "BadProgram") (mVar 0)) (mCons (mMkX "BadRatio" (ca "BadRatio") (mVar 0)) (mCons (mMkX "BadRow" (ca "BadRow") (mVar 0)) (mNil))))))))))
    (mSeq (mSet 5 (mOp oAdd (mVar 5) (mLst (mCons (mMkX "BadShowings" (ca "BadShowings") (mVar 0)) (mCons (mMkX "BadSteps" (ca "BadSteps") (mVar 0)) (mCons (mMkX "BadSystem" (ca "BadSystem") (mVar 0)) (mCons (mMkX "BadTemplate" (ca "BadTemplate") (mVar 0)) (mCons (mMkX "BadVariable" (ca "BadVariable") (mVar 0)) (mCons (mMkX "NoCells" (ca "NoCells") (mVar 0)) (mNil))))))))))
    (mRet (mOp oAdd (mVar 5) (mLst (mCons (mMkX "NotNew" (ca "NotNew") (mVar 0)) (mCons (mMkX "TooGreat" (ca "TooGreat") (mVar 0)) (mCons (mMkX "Unfit" (ca "Unfit") (mVar 0)) (mCons (mMkX "ZeroBottom" (ca "ZeroBottom") (mVar 0)) (mNil)))))))))))))
theorem ok__law_made {P : Program} {w : World} {K : PySem.W.Frag} {mg : Str → Option Value} {base : Heap} {ca : Ev} {fa : Addr} {fd : FuncData} {k : Nat} (F : Fun K "_law_made" "_law_made" s__law_made fa fd) (T : Md P w K mg ca) (h2 : 2 ≤ k) :
    FnOk P w K mg base (L2.CX P w) (k + 1) fa fd ["words", "place", "what", "index", "name"] (spM K (ctb) 5 (mFn 6 (m__law_made ca))) :=
  fn_ok F sc__law_made fun cdv A outer s H E hr tk pas => by
    let ct : Ctb := ctb
    exact ((sss_cons (ss_set (i := 5) sc__law_made.nd rfl (Or.inl rfl) (se_lst (sa_cons (se_mkF T.xm_BadText_ (hr.mono h2) rfl (sa_cons (se_var 1) sa_nil)) (sa_cons (se_mkF T.xm_NotChecked_ (hr.mono h2) rfl (sa_cons (se_var 2) sa_nil)) (sa_cons (se_mkF T.xm_NotRight_ (hr.mono h2) rfl (sa_cons (se_var 2) sa_nil)) (sa_cons (se_mkF T.xm_NotLet_ (hr.mono h2) rfl (sa_cons (se_var 3) sa_nil)) (sa_cons (se_mkF T.xm_BadListing_ (hr.mono h2) rfl (sa_cons (se_var 1) sa_nil)) (sa_cons (se_mkF T.xm_Refused_ (hr.mono h2) rfl (sa_cons (se_var 4) (sa_cons (se_var 3) (sa_cons (se_var 1) sa_nil)))) sa_nil))))))))
    (sss_cons (ss_set (i := 5) sc__law_made.nd rfl (Or.inl rfl) (se_op op_addM (se_var 5) (se_lst (sa_cons (se_mkX T.xe_BadAmounts rfl (se_var 0)) (sa_cons (se_mkX T.xe_BadArgs rfl (se_var 0)) (sa_cons (se_mkX T.xe_BadBook rfl (se_var 0)) (sa_cons (se_mkX T.xe_BadCore rfl (se_var 0)) (sa_cons (se_mkX T.xe_BadEffort rfl (se_var 0)) (sa_cons (se_mkX T.xe_BadGoal rfl (se_var 0)) sa_nil)))))))))
    (sss_cons (ss_set (i := 5) sc__law_made.nd rfl (Or.inl rfl) (se_op op_addM (se_var 5) (se_lst (sa_cons (se_mkX T.xe_BadHints rfl (se_var 0)) (sa_cons (se_mkX T.xe_BadImage rfl (se_var 0)) (sa_cons (se_mkX T.xe_BadIndex rfl (se_var 0)) (sa_cons (se_mkX T.xe_BadKind rfl (se_var 0)) (sa_cons (se_mkX T.xe_BadLevels rfl (se_var 0)) (sa_cons (se_mkX T.xe_BadLimit rfl (se_var 0)) sa_nil)))))))))
    (sss_cons (ss_set (i := 5) sc__law_made.nd rfl (Or.inl rfl) (se_op op_addM (se_var 5) (se_lst (sa_cons (se_mkX T.xe_BadLine rfl (se_var 0)) (sa_cons (se_mkX T.xe_BadLog rfl (se_var 0)) (sa_cons (se_mkX T.xe_BadMeasures rfl (se_var 0)) (sa_cons (se_mkX T.xe_BadName rfl (se_var 0)) (sa_cons (se_mkX T.xe_BadNeeds rfl (se_var 0)) (sa_cons (se_mkX T.xe_BadNever rfl (se_var 0)) sa_nil)))))))))
    (sss_cons (ss_set (i := 5) sc__law_made.nd rfl (Or.inl rfl) (se_op op_addM (se_var 5) (se_lst (sa_cons (se_mkX T.xe_BadNumber rfl (se_var 0)) (sa_cons (se_mkX T.xe_BadPlacing rfl (se_var 0)) (sa_cons (se_mkX T.xe_BadPoint rfl (se_var 0)) (sa_cons (se_mkX T.xe_BadProgram rfl (se_var 0)) (sa_cons (se_mkX T.xe_BadRatio rfl (se_var 0)) (sa_cons (se_mkX T.xe_BadRow rfl (se_var 0)) sa_nil)))))))))
    (sss_cons (ss_set (i := 5) sc__law_made.nd rfl (Or.inl rfl) (se_op op_addM (se_var 5) (se_lst (sa_cons (se_mkX T.xe_BadShowings rfl (se_var 0)) (sa_cons (se_mkX T.xe_BadSteps rfl (se_var 0)) (sa_cons (se_mkX T.xe_BadSystem rfl (se_var 0)) (sa_cons (se_mkX T.xe_BadTemplate rfl (se_var 0)) (sa_cons (se_mkX T.xe_BadVariable rfl (se_var 0)) (sa_cons (se_mkX T.xe_NoCells rfl (se_var 0)) sa_nil)))))))))
    (sss_one (ss_ret (se_op op_addM (se_var 5) (se_lst (sa_cons (se_mkX T.xe_NotNew rfl (se_var 0)) (sa_cons (se_mkX T.xe_TooGreat rfl (se_var 0)) (sa_cons (se_mkX T.xe_Unfit rfl (se_var 0)) (sa_cons (se_mkX T.xe_ZeroBottom rfl (se_var 0)) sa_nil)))))))))))))))
abbrev s_law : Stmt := topS 49
theorem sc_law : FnScope ["script", "bag", "name", "words", "place", "index", "what", "made", "k", "base", "fields", "told", "at"] ["script"] (defScope s_law) := ⟨rfl, rfl, rfl, by decide +kernel, rfl, by decide +kernel, by decide +kernel⟩
noncomputable def m_law (ca : Ev) (f__law_bag : FnM) (f__law_word : FnM) (f__law_pick : FnM) (f__law_made : FnM) (f__law_marks : FnM) (f__law_same : FnM) : MS :=
    mSeq (mSet 1 (mCall 1 f__law_bag (mCons (mVar 0) (mNil))))
    (mSeq (mSet 2 (mCall 3 f__law_word (mCons (mVar 1) (mCons (mC (.bl false)) (mCons (mLst (mNil)) (mNil))))))
    (mSeq (mSet 3 (mOp oAdd (mOp oAdd (mVar 2) (mC (.str " "))) (mCall 3 f__law_word (mCons (mVar 1) (mCons (mC (.bl true)) (mCons (mLst (mNil)) (mNil)))))))
    (mSeq (mPar 4 5 (mCons (mCall 2 f__law_pick (mCons (mVar 1) (mCons (mOp oPow (mC (.int 10)) (mC (.int 6))) (mNil)))) (mCons (mCall 2 f__law_pick (mCons (mVar 1) (mCons (mC (.int 400)) (mNil)))) (mNil))))
    (mSeq (mSet 6 (mOp oGet (mTup (mCons (mTup (mCons (mVar 3) (mCons (mC .non) (mNil)))) (mCons (mTup (mCons (mVar 3) (mCons (mVar 4) (mCons (mTup (mCons (mC (.str "use")) (mCons (mVar 5) (mNil)))) (mNil))))) (mCons (mTup (mCons (mSl (mVar 3) (moN) (moS (mC (.int 3)))) (mCons (mVar 3) (mNil)))) (mNil))))) (mCall 2 f__law_pick (mCons (mVar 1) (mCons (mC (.int 3)) (mNil))))))
    (mSeq (mSet 7 (mCall 5 f__law_made (mCons (mVar 3) (mCons (mVar 4) (mCons (mVar 6) (mCons (mVar 5) (mCons (mVar 2) (mNil))))))))
    (mSeq (mFor (miRng1 (mB bLen (mCons (mVar 7) (mNil)))) (gmName 8) (mSeq (mIfS (mOr (mNot (mTest (mIsX ca.cls (isx "PaidError") (mOp oGet (mVar 7) (mVar 8))))) (mNot (mTest (mIsX ca.cls (isx "ValueError") (mOp oGet (mVar 7) (mVar 8)))))) (mRet (mC (.bl false))) (mNx))
    (mIfS (mTest (mOp oNeF (mCall 1 f__law_marks (mCons (mOp oGet (mVar 7) (mVar 8)) (mNil))) (mLc (miRng1 (mB bLen (mCons (mVar 7) (mNil)))) (gmName 12) (mYes) (mOp oEqF (mVar 12) (mVar 8)) [12]))) (mRet (mC (.bl false))) (mNx))))
    (mSeq (mSet 9 (mMkX "PaidError" (ca "PaidError") (mVar 3)))
    (mSeq (mIfS (mOr (mNot (mTest (mIsX ca.cls (isx "ValueError") (mVar 9)))) (mTest (mOp oNeF (mCall 1 f__law_marks (mCons (mVar 9) (mNil))) (mOp oMulA (mLst (mCons (mC (.bl false)) (mNil))) (mB bLen (mCons (mVar 7) (mNil))))))) (mRet (mC (.bl false))) (mNx))
    (mSeq (mSet 10 (mTup (mCons (mXfV ca.cls ["BadText"] "place" (mOp oGet (mVar 7) (mC (.int 0)))) (mCons (mXfV ca.cls ["NotChecked", "NotRight"] "what" (mOp oGet (mVar 7) (mC (.int 1)))) (mCons (mXfV ca.cls ["NotChecked", "NotRight"] "what" (mOp oGet (mVar 7) (mC (.int 2)))) (mCons (mXfV ca.cls ["NotLet"] "index" (mOp oGet (mVar 7) (mC (.int 3)))) (mCons (mXfV ca.cls ["BadListing"] "line" (mOp oGet (mVar 7) (mC (.int 4)))) (mNil))))))))
    (mSeq (mIfS (mNot (mTest (mCall 2 f__law_same (mCons (mVar 10) (mCons (mTup (mCons (mVar 4) (mCons (mVar 6) (mCons (mVar 6) (mCons (mVar 5) (mCons (mVar 4) (mNil))))))) (mNil)))))) (mRet (mC (.bl false))) (mNx))
    (mSeq (mIfS (mNot (mTest (mCall 2 f__law_same (mCons (mTup (mCons (mXfV ca.cls ["Refused"] "name" (mOp oGet (mVar 7) (mC (.int 5)))) (mCons (mXfV ca.cls ["Refused"] "row" (mOp oGet (mVar 7) (mC (.int 5)))) (mCons (mXfV ca.cls ["Refused"] "address" (mOp oGet (mVar 7) (mC (.int 5)))) (mNil))))) (mCons (mTup (mCons (mVar 2) (mCons (mVar 5) (mCons (mVar 4) (mNil))))) (mNil)))))) (mRet (mC (.bl false))) (mNx))
    (mSeq (mSet 11 (mMkF "Refused" (ca "Refused") 3 ["address", "row", "name"] [0, 1, 2] (mCons (mVar 5) (mCons (mVar 4) (mCons (mVar 3) (mNil))))))
    (mSeq (mIfS (mNot (mTest (mCall 2 f__law_same (mCons (mTup (mCons (mXfV ca.cls ["Refused"] "name" (mVar 11)) (mCons (mXfV ca.cls ["Refused"] "row" (mVar 11)) (mCons (mXfV ca.cls ["Refused"] "address" (mVar 11)) (mCons (mXfV ca.cls ["BadListing"] "line" (mMkF "BadListing" (ca "BadListing") 1 ["line"] [0] (mCons (mVar 5) (mNil)))) (mNil)))))) (mCons (mTup (mCons (mVar 3) (mCons (mVar 4) (mCons (mVar 5) (mCons (mVar 5) (mNil)))))) (mNil)))))) (mRet (mC (.bl false))) (mNx))
    (mSeq (mSet 10 (mTup (mCons (mXfV ca.cls ["BadText"] "place" (mMkF "BadText" (ca "BadText") 1 ["place"] [0] (mCons (mVar 5) (mNil)))) (mCons (mXfV ca.cls ["NotChecked", "NotRight"] "what" (mMkF "NotChecked" (ca "NotChecked") 1 ["what"] [0] (mCons (mVar 6) (mNil)))) (mCons (mXfV ca.cls ["NotChecked", "NotRight"] "what" (mMkF "NotRight" (ca "NotRight") 1 ["what"] [0] (mCons (mVar 6) (mNil)))) (mCons (mXfV ca.cls ["NotLet"] "index" (mMkF "NotLet" (ca "NotLet") 1 ["index"] [0] (mCons (mVar 4) (mNil)))) (mNil)))))))
    (mRet (mCall 2 f__law_same (mCons (mVar 10) (mCons (mTup (mCons (mVar 5) (mCons (mVar 6) (mCons (mVar 6) (mCons (mVar 4) (mNil)))))) (mNil)))))))))))))))))))
theorem ok_law {P : Program} {w : World} {K : PySem.W.Frag} {mg : Str → Option Value} {base : Heap} {ca : Ev} {fa : Addr} {fd : FuncData} {k : Nat} (F : Fun K "law" "law" s_law fa fd) (T : Md P w K mg ca) (h2 : 2 ≤ k) {f__law_bag : FnM} {f__law_word : FnM} {f__law_pick : FnM} {f__law_made : FnM} {f__law_marks : FnM} {f__law_same : FnM} (F__law_bag : FnI P w K mg base (ctb) k "_law_bag" ["script"] f__law_bag) (F__law_word : FnI P w K mg base (ctb) k "_law_word" ["bag", "capital", "used"] f__law_word) (F__law_pick : FnI P w K mg base (ctb) k "_law_pick" ["bag", "many"] f__law_pick) (F__law_made : FnI P w K mg base (ctb) k "_law_made" ["words", "place", "what", "index", "name"] f__law_made) (F__law_marks : FnI P w K mg base (ctb) k "_law_marks" ["e"] f__law_marks) (F__law_same : FnI P w K mg base (ctb) k "_law_same" ["found", "due"] f__law_same) :
    FnOk P w K mg base (L2.CX P w) (k + 1) fa fd ["script"] (spM K (ctb) 1 (mFn 13 (m_law ca f__law_bag f__law_word f__law_pick f__law_made f__law_marks f__law_same))) :=
  fn_ok F sc_law fun cdv A outer s H E hr tk pas => by
    let ct : Ctb := ctb
    exact ((sss_cons (ss_set (i := 1) sc_law.nd rfl (Or.inl rfl) (se_callI F__law_bag rfl hr rfl tk (sa_cons (se_var 0) sa_nil)))
    (sss_cons (ss_set (i := 2) sc_law.nd rfl (Or.inl rfl) (se_callI F__law_word rfl hr rfl tk (sa_cons (se_var 1) (sa_cons se_bl (sa_cons (se_lst sa_nil) sa_nil)))))
    (sss_cons (ss_set (i := 3) sc_law.nd rfl (Or.inl rfl) (se_op op_addM (se_op op_addM (se_var 2) se_str) (se_callI F__law_word rfl hr rfl tk (sa_cons (se_var 1) (sa_cons se_bl (sa_cons (se_lst sa_nil) sa_nil))))))
    (sss_cons (ss_par (i := 4) (j := 5) rfl sc_law.nd rfl rfl (by decide) rfl rfl (sa_cons (se_callI F__law_pick rfl hr rfl tk (sa_cons (se_var 1) (sa_cons (se_op op_powM se_int se_int) sa_nil))) (sa_cons (se_callI F__law_pick rfl hr rfl tk (sa_cons (se_var 1) (sa_cons se_int sa_nil))) sa_nil)) rfl)
    (sss_cons (ss_set (i := 6) sc_law.nd rfl (Or.inl rfl) (se_ix (ix_A hr) (se_tup (sa_cons (se_tup (sa_cons (se_var 3) (sa_cons se_non sa_nil))) (sa_cons (se_tup (sa_cons (se_var 3) (sa_cons (se_var 4) (sa_cons (se_tup (sa_cons se_str (sa_cons (se_var 5) sa_nil))) sa_nil)))) (sa_cons (se_tup (sa_cons (se_sl (se_var 3) so_none (so_some se_int)) (sa_cons (se_var 3) sa_nil))) sa_nil)))) (se_callI F__law_pick rfl hr rfl tk (sa_cons (se_var 1) (sa_cons se_int sa_nil))) (fun _ _ => rfl)))
    (sss_cons (ss_set (i := 7) sc_law.nd rfl (Or.inl rfl) (se_callI F__law_made rfl hr rfl tk (sa_cons (se_var 3) (sa_cons (se_var 4) (sa_cons (se_var 6) (sa_cons (se_var 5) (sa_cons (se_var 2) sa_nil)))))))
    (sss_cons (ss_for pas rfl (si_rng1 rfl T.z_range (se_callB cr_len rfl T.z_len PySem.boot_len (sa_cons (se_var 7) sa_nil))) (sg_name (i := 8) sc_law.nd rfl (Or.inr rfl)) (sss_cons (ss_if (st_w (sw_or (st_not (st_val (se_isX T.xi_PaidError rfl T.z_isinstance (se_ix (ix_A hr) (se_var 7) (se_var 8) (fun _ _ => rfl)) (pe_glob (v := .ref (ca "PaidError")) rfl T.xg_PaidError rfl) (fun u z => z)))) (sw_or1 (st_not (st_val (se_isX T.xi_ValueError rfl T.z_isinstance (se_ix (ix_A hr) (se_var 7) (se_var 8) (fun _ _ => rfl)) (pe_bltn (v := .ty "ValueError") rfl T.z_ValueError (by decide +kernel) rfl) (fun u z => z))))))) (sss_one (ss_ret se_bl)) sss_nil)
    (sss_one (ss_if (st_cmp (op_neF hr.units) (se_callI F__law_marks rfl hr rfl tk (sa_cons (se_ix (ix_A hr) (se_var 7) (se_var 8) (fun _ _ => rfl)) sa_nil)) (se_lc [("at", 12)] rfl sc_law.nd (si_rng1 rfl T.z_range (se_callB cr_len rfl T.z_len PySem.boot_len (sa_cons (se_var 7) sa_nil))) (blkOk_by (own := [("at", 12)]) (N := ["script", "bag", "name", "words", "place", "index", "what", "made", "k", "base", "fields", "told", "at"]) (sc := defScope s_law) (by decide +kernel)) (fun _ _ _ _ _ => (sgv_name (vs := [12]) (i := 12) sc_law.nd rfl (Or.inl rfl) (by decide))) (fun _ _ _ _ _ => sts_nil) (fun _ _ _ _ _ => (se_cmp (op_eqF hr.units) (se_var 12) (se_var 8) (nomark _)))) (nomark _)) (sss_one (ss_ret se_bl)) sss_nil))))
    (sss_cons (ss_set (i := 9) sc_law.nd rfl (Or.inl rfl) (se_mkX T.xe_PaidError rfl (se_var 3)))
    (sss_cons (ss_if (st_w (sw_or (st_not (st_val (se_isX T.xi_ValueError rfl T.z_isinstance (se_var 9) (pe_bltn (v := .ty "ValueError") rfl T.z_ValueError (by decide +kernel) rfl) (fun u z => z)))) (sw_or1 (st_cmp (op_neF hr.units) (se_callI F__law_marks rfl hr rfl tk (sa_cons (se_var 9) sa_nil)) (se_op op_mulA (se_lst (sa_cons se_bl sa_nil)) (se_callB cr_len rfl T.z_len PySem.boot_len (sa_cons (se_var 7) sa_nil))) (nomark _))))) (sss_one (ss_ret se_bl)) sss_nil)
    (sss_cons (ss_set (i := 10) sc_law.nd rfl (Or.inl rfl) (se_tup (sa_cons (se_xfv T.xr_place (se_ix (ix_A hr) (se_var 7) se_int (fun _ _ => rfl))) (sa_cons (se_xfv T.xr_what (se_ix (ix_A hr) (se_var 7) se_int (fun _ _ => rfl))) (sa_cons (se_xfv T.xr_what (se_ix (ix_A hr) (se_var 7) se_int (fun _ _ => rfl))) (sa_cons (se_xfv T.xr_index (se_ix (ix_A hr) (se_var 7) se_int (fun _ _ => rfl))) (sa_cons (se_xfv T.xr_line (se_ix (ix_A hr) (se_var 7) se_int (fun _ _ => rfl))) sa_nil)))))))
    (sss_cons (ss_if (st_not (st_val (se_callI F__law_same rfl hr rfl tk (sa_cons (se_var 10) (sa_cons (se_tup (sa_cons (se_var 4) (sa_cons (se_var 6) (sa_cons (se_var 6) (sa_cons (se_var 5) (sa_cons (se_var 4) sa_nil)))))) sa_nil))))) (sss_one (ss_ret se_bl)) sss_nil)
    (sss_cons (ss_if (st_not (st_val (se_callI F__law_same rfl hr rfl tk (sa_cons (se_tup (sa_cons (se_xfv T.xr_name (se_ix (ix_A hr) (se_var 7) se_int (fun _ _ => rfl))) (sa_cons (se_xfv T.xr_row (se_ix (ix_A hr) (se_var 7) se_int (fun _ _ => rfl))) (sa_cons (se_xfv T.xr_address (se_ix (ix_A hr) (se_var 7) se_int (fun _ _ => rfl))) sa_nil)))) (sa_cons (se_tup (sa_cons (se_var 2) (sa_cons (se_var 5) (sa_cons (se_var 4) sa_nil)))) sa_nil))))) (sss_one (ss_ret se_bl)) sss_nil)
    (sss_cons (ss_set (i := 11) sc_law.nd rfl (Or.inl rfl) (se_mkFK T.xm_Refused_address_row_name (hr.mono h2) rfl (sk_cons (se_var 5) (sk_cons (se_var 4) (sk_cons (se_var 3) sk_nil)))))
    (sss_cons (ss_if (st_not (st_val (se_callI F__law_same rfl hr rfl tk (sa_cons (se_tup (sa_cons (se_xfv T.xr_name (se_var 11)) (sa_cons (se_xfv T.xr_row (se_var 11)) (sa_cons (se_xfv T.xr_address (se_var 11)) (sa_cons (se_xfv T.xr_line (se_mkFK T.xm_BadListing_line (hr.mono h2) rfl (sk_cons (se_var 5) sk_nil))) sa_nil))))) (sa_cons (se_tup (sa_cons (se_var 3) (sa_cons (se_var 4) (sa_cons (se_var 5) (sa_cons (se_var 5) sa_nil))))) sa_nil))))) (sss_one (ss_ret se_bl)) sss_nil)
    (sss_cons (ss_set (i := 10) sc_law.nd rfl (Or.inl rfl) (se_tup (sa_cons (se_xfv T.xr_place (se_mkFK T.xm_BadText_place (hr.mono h2) rfl (sk_cons (se_var 5) sk_nil))) (sa_cons (se_xfv T.xr_what (se_mkFK T.xm_NotChecked_what (hr.mono h2) rfl (sk_cons (se_var 6) sk_nil))) (sa_cons (se_xfv T.xr_what (se_mkFK T.xm_NotRight_what (hr.mono h2) rfl (sk_cons (se_var 6) sk_nil))) (sa_cons (se_xfv T.xr_index (se_mkFK T.xm_NotLet_index (hr.mono h2) rfl (sk_cons (se_var 4) sk_nil))) sa_nil))))))
    (sss_one (ss_ret (se_callI F__law_same rfl hr rfl tk (sa_cons (se_var 10) (sa_cons (se_tup (sa_cons (se_var 5) (sa_cons (se_var 6) (sa_cons (se_var 6) (sa_cons (se_var 4) sa_nil))))) sa_nil)))))))))))))))))))))
/-- all that the top has written -/
structure Tx (P : Program) (w : World) (K : PySem.W.Frag) (mg : Str → Option Value) (ca : Ev) : Prop where
  md : Md P w K mg ca
  d__law_bag : DefI K mg "_law_bag" s__law_bag ["script"] []
  d__law_pick : DefI K mg "_law_pick" s__law_pick ["bag", "many"] []
  d__law_word : DefI K mg "_law_word" s__law_word ["bag", "capital", "used"] []
  d__law_same : DefI K mg "_law_same" s__law_same ["found", "due"] []
  d__law_marks : DefI K mg "_law_marks" s__law_marks ["e"] []
  d__law_made : DefI K mg "_law_made" s__law_made ["words", "place", "what", "index", "name"] []
  d_law : DefI K mg "law" s_law ["script"] []
noncomputable def F__law_bag (ca : Ev) : FnM := mFn 1 (m__law_bag ca)
theorem o__law_bag {P : Program} {w : World} {K : PySem.W.Frag} {mg : Str → Option Value} {base : Heap} {ca : Ev} (T : Tx P w K mg ca) {fa : Addr} {fd : FuncData} (F : Fun K "_law_bag" "_law_bag" s__law_bag fa fd) : FnOk P w K mg base (L2.CX P w) (1) fa fd ["script"] (spM K (ctb) 1 (F__law_bag ca)) := ok__law_bag (k := 0) F T.md
theorem w__law_bag {P : Program} {w : World} {K : PySem.W.Frag} {mg : Str → Option Value} {base : Heap} {ca : Ev} (T : Tx P w K mg ca) : FnI P w K mg base (ctb) (1) "_law_bag" ["script"] (F__law_bag ca) := T.d__law_bag.fn (fun F => o__law_bag T F)
noncomputable def F__law_pick (ca : Ev) : FnM := mFn 5 (m__law_pick ca)
theorem o__law_pick {P : Program} {w : World} {K : PySem.W.Frag} {mg : Str → Option Value} {base : Heap} {ca : Ev} (T : Tx P w K mg ca) {fa : Addr} {fd : FuncData} (F : Fun K "_law_pick" "_law_pick" s__law_pick fa fd) : FnOk P w K mg base (L2.CX P w) (1) fa fd ["bag", "many"] (spM K (ctb) 2 (F__law_pick ca)) := ok__law_pick (k := 0) F T.md
theorem w__law_pick {P : Program} {w : World} {K : PySem.W.Frag} {mg : Str → Option Value} {base : Heap} {ca : Ev} (T : Tx P w K mg ca) : FnI P w K mg base (ctb) (1) "_law_pick" ["bag", "many"] (F__law_pick ca) := T.d__law_pick.fn (fun F => o__law_pick T F)
noncomputable def F__law_word (ca : Ev) : FnM := mFn 8 (m__law_word ca (F__law_pick ca))
theorem o__law_word {P : Program} {w : World} {K : PySem.W.Frag} {mg : Str → Option Value} {base : Heap} {ca : Ev} (T : Tx P w K mg ca) {fa : Addr} {fd : FuncData} (F : Fun K "_law_word" "_law_word" s__law_word fa fd) : FnOk P w K mg base (L2.CX P w) (2) fa fd ["bag", "capital", "used"] (spM K (ctb) 3 (F__law_word ca)) := ok__law_word (k := 1) F T.md ((w__law_pick T).mono (by decide))
theorem w__law_word {P : Program} {w : World} {K : PySem.W.Frag} {mg : Str → Option Value} {base : Heap} {ca : Ev} (T : Tx P w K mg ca) : FnI P w K mg base (ctb) (2) "_law_word" ["bag", "capital", "used"] (F__law_word ca) := T.d__law_word.fn (fun F => o__law_word T F)
noncomputable def R__law_same (ca : Ev) : Nat → FnM
  | 0 => mFn 3 mBadS
  | n + 1 => mFn 3 (m__law_same ca (R__law_same ca n))
theorem R__law_same_succ {ca : Ev} {n : Nat} : R__law_same ca (n + 1) = mFn 3 (m__law_same ca (R__law_same ca n)) := rfl
noncomputable def F__law_same (ca : Ev) : FnM := R__law_same ca 5
theorem oR__law_same {P : Program} {w : World} {K : PySem.W.Frag} {mg : Str → Option Value} {base : Heap} {ca : Ev} (T : Tx P w K mg ca) (n : Nat) : (∀ {fa : Addr} {fd : FuncData}, Fun K "_law_same" "_law_same" s__law_same fa fd → FnOk P w K mg base (L2.CX P w) (0 + n + 1) fa fd ["found", "due"] (spM K (ctb) 2 (R__law_same ca n))) := by
  induction n with
  | zero => exact fun {fa fd} F => fn_ok F sc__law_same fun _ _ _ _ _ _ _ _ _ => sss_bad
  | succ n ih =>
    have h__law_same := @ih
    have i__law_same : FnI P w K mg base (ctb) (0 + n + 1) "_law_same" ["found", "due"] (R__law_same ca n) := T.d__law_same.fn (fun F => h__law_same F)
    exact fun {fa fd} F => ok__law_same (k := 0 + n + 1) F T.md i__law_same
theorem o__law_same {P : Program} {w : World} {K : PySem.W.Frag} {mg : Str → Option Value} {base : Heap} {ca : Ev} (T : Tx P w K mg ca) {fa : Addr} {fd : FuncData} (F : Fun K "_law_same" "_law_same" s__law_same fa fd) : FnOk P w K mg base (L2.CX P w) (6) fa fd ["found", "due"] (spM K (ctb) 2 (F__law_same ca)) := (oR__law_same T 5) F
theorem w__law_same {P : Program} {w : World} {K : PySem.W.Frag} {mg : Str → Option Value} {base : Heap} {ca : Ev} (T : Tx P w K mg ca) : FnI P w K mg base (ctb) (6) "_law_same" ["found", "due"] (F__law_same ca) := T.d__law_same.fn (fun F => o__law_same T F)
noncomputable def F__law_marks (ca : Ev) : FnM := mFn 2 (m__law_marks ca)
theorem o__law_marks {P : Program} {w : World} {K : PySem.W.Frag} {mg : Str → Option Value} {base : Heap} {ca : Ev} (T : Tx P w K mg ca) {fa : Addr} {fd : FuncData} (F : Fun K "_law_marks" "_law_marks" s__law_marks fa fd) : FnOk P w K mg base (L2.CX P w) (1) fa fd ["e"] (spM K (ctb) 1 (F__law_marks ca)) := ok__law_marks (k := 0) F T.md
theorem w__law_marks {P : Program} {w : World} {K : PySem.W.Frag} {mg : Str → Option Value} {base : Heap} {ca : Ev} (T : Tx P w K mg ca) : FnI P w K mg base (ctb) (1) "_law_marks" ["e"] (F__law_marks ca) := T.d__law_marks.fn (fun F => o__law_marks T F)
noncomputable def F__law_made (ca : Ev) : FnM := mFn 6 (m__law_made ca)
theorem o__law_made {P : Program} {w : World} {K : PySem.W.Frag} {mg : Str → Option Value} {base : Heap} {ca : Ev} (T : Tx P w K mg ca) {fa : Addr} {fd : FuncData} (F : Fun K "_law_made" "_law_made" s__law_made fa fd) : FnOk P w K mg base (L2.CX P w) (3) fa fd ["words", "place", "what", "index", "name"] (spM K (ctb) 5 (F__law_made ca)) := ok__law_made (k := 2) F T.md (h2 := by decide)
theorem w__law_made {P : Program} {w : World} {K : PySem.W.Frag} {mg : Str → Option Value} {base : Heap} {ca : Ev} (T : Tx P w K mg ca) : FnI P w K mg base (ctb) (3) "_law_made" ["words", "place", "what", "index", "name"] (F__law_made ca) := T.d__law_made.fn (fun F => o__law_made T F)
noncomputable def F_law (ca : Ev) : FnM := mFn 13 (m_law ca (F__law_bag ca) (F__law_word ca) (F__law_pick ca) (F__law_made ca) (F__law_marks ca) (F__law_same ca))
theorem o_law {P : Program} {w : World} {K : PySem.W.Frag} {mg : Str → Option Value} {base : Heap} {ca : Ev} (T : Tx P w K mg ca) {fa : Addr} {fd : FuncData} (F : Fun K "law" "law" s_law fa fd) : FnOk P w K mg base (L2.CX P w) (7) fa fd ["script"] (spM K (ctb) 1 (F_law ca)) := ok_law (k := 6) F T.md (h2 := by decide) ((w__law_bag T).mono (by decide)) ((w__law_word T).mono (by decide)) ((w__law_pick T).mono (by decide)) ((w__law_made T).mono (by decide)) ((w__law_marks T).mono (by decide)) ((w__law_same T).mono (by decide))
theorem law_ok {P : Program} {w : World} {K : PySem.W.Frag} {mg : Str → Option Value} {base : Heap} {ca : Ev} (T : Tx P w K mg ca) {fa : Addr} {fd : FuncData} (F : Fun K "law" "law" s_law fa fd) : FnOk P w K mg base (L2.CX P w) 200 fa fd ["script"] (spM K (ctb) 1 (F_law ca)) := (o_law T F).mono (by decide)
end K00
set_option exponentiation.threshold 400
namespace K00
open PySem PySem.Spec L2 PI
open PyProof.Rows hiding St
abbrev Om (m : Nat) : Nat → Prop := fun i => i = m
abbrev cs (s : Str) : List Nat := s.cps.toList
theorem app_len {a b : Str} : (a ++ b).length = a.length + b.length := by
  show (a.cps ++ b.cps).size = a.cps.size + b.cps.size
  simp
theorem cut_len {z : Str} {lo hi : Option Int} : (cutS z lo hi).length ≤ z.length := by
  unfold cutS
  show (_ : Array Nat).size ≤ z.cps.size
  simp
  omega
def IsBag (h : Hh) (w l : Nat) (n : Nat) : Prop := ∃ (c a : Int) (xs : List Int), h[w]? = some (.lst [.ref l, .int a, .int c]) ∧ h[l]? = some (.lst (xs.map D.int)) ∧ xs.length ≤ 1000 ∧ l ≠ w ∧ 0 ≤ a ∧ a ≤ n
section
variable {ca : Ev} {h h1 : Hh} {w l n : Nat}
theorem IsBag.ext (W : IsBag h w l n) (E : Ext noS h h1) : IsBag h1 w l n := by
  obtain ⟨c, a, xs, e1, e2, r⟩ := W
  exact ⟨c, a, xs, E.get e1, E.get e2, r⟩
theorem IsBag.lw (W : IsBag h w l n) : w < h.length ∧ l < h.length := by
  obtain ⟨c, a, xs, e1, e2, _⟩ := W
  exact ⟨lt_of e1, lt_of e2⟩
theorem strAtM {z : Str} {x : Int} (l : z.length ≤ 1000) (x0 : 0 ≤ x) (x1 : x < z.length) : ∃ c, c ∈ cs z ∧ oGet (.str z) (.int x) h = some (.str ⟨#[c]⟩, h) := by
  have l2 : z.length ≤ sizeLine := le_sl (by omega)
  have hl : z.cps.toList.length = z.length := by simp [Str.length]
  obtain ⟨c, ec⟩ : ∃ c, z.cps.toList[x.toNat]? = some c := ⟨_, List.getElem?_eq_getElem (by omega)⟩
  have ea : x = (x.toNat : Int) := by omega
  have : atI z.cps.toList x = some c := by rw [ea]; exact atI_nat ec
  exact ⟨c, List.mem_of_getElem? ec, by simp [oGet, getD?, oIx, l2, this]⟩
/-- a number mixed -/
def mix (y a : Int) : Int := (y + 15485863) * (y * 32452843 + 49979687 * a + 982451653)
theorem mix_b {y a : Int} (y0 : 0 ≤ y) (y1 : y < 10 ^ 18) (a0 : 0 ≤ a) (a1 : a ≤ 10 ^ 100) : mulOk (y + 15485863) (y * 32452843 + 49979687 * a + 982451653) = true ∧ mulOk (mix y a) (mix y a) = true := by
  have h1 : 0 ≤ y + 15485863 ∧ y + 15485863 ≤ 10 ^ 19 := by omega
  have h2 : 0 ≤ y * 32452843 + 49979687 * a + 982451653 ∧ y * 32452843 + 49979687 * a + 982451653 ≤ 10 ^ 109 := by omega
  refine ⟨mulOk_b (by omega) (by omega), ?_⟩
  have h3 : 0 ≤ mix y a := Int.mul_nonneg h1.1 h2.1
  have h4 : mix y a ≤ 10 ^ 19 * 10 ^ 109 := Int.mul_le_mul h1.2 h2.2 h2.1 (by decide)
  have h5 : (10 : Int) ^ 19 * 10 ^ 109 = 10 ^ 128 := by decide
  exact mulOk_b (by omega) (by omega)
theorem pick_ok {m : Int} (W : IsBag h w l n) (hm : 0 < m) (hd : divOk m = true) (hn : (n : Int) ≤ 10 ^ 100) :
    spec (F__law_pick ca [.ref w, .int m] h) fun d h' => ∃ x, d = .int x ∧ (0 ≤ x ∧ x < m) ∧ IsBag h' w l (n + 1) ∧ Ext (Om w) h h' := by
  unfold F__law_pick
  obtain ⟨c, a, xs, h1, h2, h3, hl, a0, a1⟩ := W
  have hw : w < h.length := lt_of h1
  have og := fun i => oGet_lst (i := i) h1
  have og2 := fun i => oGet_lst (i := i) h2
  have op := fun i d => oPut_lst (i := i) (d := d) h1
  have p18 : powOk 10 18 = true := by decide
  have key : ∀ (x r b : Int), 0 ≤ r → r < m → 0 ≤ b → b ≤ (n : Int) + 1 → mFn 5 (m__law_pick ca) [.ref w, .int m] h = .ok (.int r) (h.set w (.lst [.ref l, .int b, .int x])) → spec (mFn 5 (m__law_pick ca) [.ref w, .int m] h) fun d h' => ∃ x, d = .int x ∧ (0 ≤ x ∧ x < m) ∧ IsBag h' w l (n + 1) ∧ Ext (Om w) h h' := fun x r b r0 r1 b0 b1 e =>
    spec.of e ⟨r, rfl, ⟨r0, r1⟩, ⟨x, b, xs, set_get h1, set_ne h2 hl, h3, hl, b0, by omega⟩, .set rfl⟩
  by_cases hc : c < m
  · have m1 : ∀ x0 : Int, mulOk 2 x0 = true := fun _ => mulOk_l (by decide)
    have m2 : ∀ x0 : Int, mulOk 3 x0 = true := fun _ => mulOk_l (by decide)
    have m3 : ∀ x0 : Int, mulOk x0 32452843 = true := fun _ => mulOk_r (by decide)
    have m4 : ∀ x0 : Int, mulOk 49979687 x0 = true := fun _ => mulOk_l (by decide)
    have m5 : ∀ x0 : Int, mulOk x0 7368787 = true := fun _ => mulOk_r (by decide)
    have d97 : divOk 1009 = true := divOk_n (by decide) (by decide)
    have hs : ∀ o, (h.set w o)[w]? = some o := fun o => List.getElem?_set_self hw
    have og3 := fun xs i => oGet_lst (i := i) (hs (.lst xs))
    have op3 := fun xs i d => oPut_lst (i := i) (d := d) (hs (.lst xs))
    have lenr : bLen [.ref l] h = some (.int (xs.length : Int), h) := by rw [bLen_ref h2]; simp
    by_cases hl : a < (xs.length : Int)
    · obtain ⟨x, hx⟩ : ∃ x, xs[a.toNat]? = some x := ⟨_, List.getElem?_eq_getElem (by omega)⟩
      have hix : atI (xs.map D.int) a = some (.int x) := by
        have ea : a = (a.toNat : Int) := by omega
        rw [ea]
        exact atI_nat (by rw [List.getElem?_map, hx]; rfl)
      obtain ⟨y, hy⟩ : ∃ y, ((2 * if x < 0 then -x else x) + if x < 0 then 1 else 0) = y := ⟨_, rfl⟩
      have y0 : 0 ≤ y := by rw [← hy]; split <;> omega
      by_cases hy18 : y < 10 ^ 18
      · obtain ⟨q1, q2⟩ := mix_b y0 hy18 a0 (by omega)
        have hy18 : y < 1000000000000000000 := hy18
        obtain ⟨z, hz⟩ : ∃ z, mix y a * mix y a / 1009 + mix y a * 7368787 = z := ⟨_, rfl⟩
        have hm' : (y + 15485863) * (y * 32452843 + 49979687 * a + 982451653) = mix y a := rfl
        refine key (z / m) (z % m) (a + 1) (Int.emod_nonneg _ (by omega)) (Int.emod_lt_of_pos _ hm) (by omega) (by omega) ?_
        simp -implicitDefEqProofs [mFn, m__law_pick, h1, h2, og, og2, og3, op, op3, hm, hd, ixN, lenr, hl, hix, p18, m1, m2, m3, m4, m5, d97, hs, a0, oEqF_int, hc, hy, hy18, q1, hm', q2, hz]
      · have hy18 : ¬ y < 1000000000000000000 := hy18
        refine key (y / m) (y % m) (a + 1) (Int.emod_nonneg _ (by omega)) (Int.emod_lt_of_pos _ hm) (by omega) (by omega) ?_
        simp -implicitDefEqProofs [mFn, m__law_pick, h1, h2, og, og2, og3, op, op3, hm, hd, ixN, lenr, hl, hix, p18, m1, m2, m3, m4, m5, d97, hs, a0, oEqF_int, hc, hy, hy18]
    · obtain ⟨y, hy⟩ : ∃ y, 3 * a + 1 = y := ⟨_, rfl⟩
      have y0 : 0 ≤ y := by omega
      by_cases hy18 : y < 10 ^ 18
      · obtain ⟨q1, q2⟩ := mix_b y0 hy18 a0 (by omega)
        have hy18 : y < 1000000000000000000 := hy18
        obtain ⟨z, hz⟩ : ∃ z, mix y a * mix y a / 1009 + mix y a * 7368787 = z := ⟨_, rfl⟩
        have hm' : (y + 15485863) * (y * 32452843 + 49979687 * a + 982451653) = mix y a := rfl
        refine key (z / m) (z % m) (a + 1) (Int.emod_nonneg _ (by omega)) (Int.emod_lt_of_pos _ hm) (by omega) (by omega) ?_
        simp -implicitDefEqProofs [mFn, m__law_pick, h1, h2, og, og2, og3, op, op3, hm, hd, ixN, lenr, hl, p18, m1, m2, m3, m4, m5, d97, hs, a0, oEqF_int, hc, hy, hy18, q1, hm', q2, hz]
      · have hy18 : ¬ y < 1000000000000000000 := hy18
        refine key (y / m) (y % m) (a + 1) (Int.emod_nonneg _ (by omega)) (Int.emod_lt_of_pos _ hm) (by omega) (by omega) ?_
        simp -implicitDefEqProofs [mFn, m__law_pick, h1, h2, og, og2, og3, op, op3, hm, hd, ixN, lenr, hl, p18, m1, m2, m3, m4, m5, d97, hs, a0, oEqF_int, hc, hy, hy18]
  · have e : mFn 5 (m__law_pick ca) [.ref w, .int m] h = .ok (.int (c % m)) (h.set w (.lst [.ref l, .int a, .int (c / m)])) := by
      have og4 := fun xs i => oGet_lst (i := i) (show (h.set w (.lst xs))[w]? = some (.lst xs) from List.getElem?_set_self hw)
      simp -implicitDefEqProofs [mFn, m__law_pick, h1, og, og4, op, hc, hm, hd, ixN, oEqF_int]
    exact key _ _ a (Int.emod_nonneg _ (by omega)) (Int.emod_lt_of_pos _ hm) a0 (by omega) e
abbrev pickT (gd : FnM) (w l : Nat) : Prop := ∀ {h : Hh} {n : Nat} {m : Int}, IsBag h w l n → (0 < m ∧ divOk m = true) → (n : Int) ≤ 10 ^ 100 → spec (gd [.ref w, .int m] h) fun d h' => ∃ x, d = .int x ∧ (0 ≤ x ∧ x < m) ∧ IsBag h' w l (n + 1) ∧ Ext (Om w) h h'
theorem pick_T {w l : Nat} : pickT (F__law_pick ca) w l := fun W hm hn => pick_ok W hm.1 hm.2 hn
def WRD : List Str := ["def", "else", "give", "if", "kind", "let", "match", "whole"]
def LET : Str := "abcdefghijklmnopqrstuvwxyzABCDEFGHIJKLMNOPQRSTUVWXYZ"
def DIG : Str := "0123456789"
theorem ad1 {h : Hh} : oAdd (.str "abcdefghijklmnopqrstuvwxyz") (.str "ABCDEFGHIJKLMNOPQRSTUVWXYZ") h = some (.str LET, h) := by
  simp only [oAdd]
  rw [if_pos (by decide)]
  rfl
theorem ad2 {h : Hh} : oAdd (.str LET) (.str "0123456789") h = some (.str (LET ++ DIG), h) := by
  simp only [oAdd]
  rw [if_pos (by decide)]
  rfl
theorem word_ok {t : Nat} {b : Bool} (W : IsBag h w l n) (K : h[t]? = some (.lst [])) (tw : t ≠ w) (tl : t ≠ l) (hn : (n : Int) + 20 ≤ 10 ^ 100) :
    spec (F__law_word ca [.ref w, .bl b, .ref t] h) fun d h' => ∃ s : Str, d = .str s ∧ s.length ≤ 10 ∧ IsBag h' w l (n + 10) ∧ Ext (fun i => i = w ∨ i = t) h h' := by
  unfold F__law_word
  have dr : pickT (F__law_pick ca) w l := pick_T
  generalize F__law_pick ca = gd at dr
  apply wO_fn
  have bi : ∀ h, bInt [.bl b] h = some (.int (if b then 1 else 0), h) := fun h => rfl
  have ob := W.lw
  have fin : ∀ (s : Str) (h5 : Hh), h5[t]? = some (.lst []) → ∃ h6, lAppend (.ref t) [.str s] h5 = some (.non, h6) ∧ Ext (Om t) h5 h6 := fun s h5 K5 =>
    ⟨h5.set t (.lst [.str s]), by simp [lAppend, K5, lt_sl], .set rfl⟩
  have bg : ∀ {h5 h6 : Hh} {k : Nat}, IsBag h5 w l (n + 2 + k) → Ext (Om t) h5 h6 → k ≤ 4 → IsBag h6 w l (n + 10) := fun ⟨c, a, xs, e1, e2, e3, e4, e5, e6⟩ E hk =>
    ⟨c, a, xs, E.keep _ _ e1 (fun z => tw z.symm), E.keep _ _ e2 (fun z => tl z.symm), e3, e4, e5, by omega⟩
  simp -implicitDefEqProofs [-List.append_assoc, -List.length_append, -List.cons_append, m__law_word, bi]
  generalize xe : h ++ [_] = h2
  have q2 := new_of xe
  have K2 := get_of xe K
  have E2 : Ext noS h h2 := ext_of xe
  have W2 := W.ext (ext_of xe)
  clear xe
  have og : oGet (.ref h.length) (.int (if b then 1 else 0)) h2 = some (.str (if b = true then "ABCDEFGHIJKLMNOPQRSTUVWXYZ" else "abcdefghijklmnopqrstuvwxyz"), h2) := by
    rw [oGet_lst q2]
    cases b <;> rfl
  simp -implicitDefEqProofs [-List.append_assoc, -List.length_append, -List.cons_append, og]
  refine wS.bind (dr W2 ⟨by decide, by decide⟩ (by omega)) ?_
  rintro _ h3 ⟨x, rfl, hx, W3, E3⟩
  have zl : ((if b = true then "ABCDEFGHIJKLMNOPQRSTUVWXYZ" else "abcdefghijklmnopqrstuvwxyz") : Str).length = 26 := by cases b <;> decide
  obtain ⟨c, cm, ec⟩ := strAtM (h := h3) (z := if b = true then "ABCDEFGHIJKLMNOPQRSTUVWXYZ" else "abcdefghijklmnopqrstuvwxyz") (x := x) (by omega) hx.1 (by omega)
  have E03 : Ext (Om w) h h3 := E2.of.trans E3
  simp -implicitDefEqProofs [-List.append_assoc, -List.length_append, -List.cons_append, ec]
  refine wS.bind (dr W3 ⟨by decide, by decide⟩ (by omega)) ?_
  rintro _ h4 ⟨k, rfl, hk, W4, E4⟩
  obtain ⟨k, rfl⟩ : ∃ j : Nat, k = j := ⟨k.toNat, by omega⟩
  have kb : k < 1000000000 := by omega
  simp -implicitDefEqProofs [-List.append_assoc, -List.length_append, -List.cons_append, kb]
  refine wS.loop (fun i ρ h' => ∃ (s : Str) (o6 : Option D), ρ = [some (.ref w), some (.bl b), some (.ref t), some (.str "abcdefghijklmnopqrstuvwxyz"), some (.str "ABCDEFGHIJKLMNOPQRSTUVWXYZ"), some (.str s), o6, none] ∧ s.length ≤ 1 + i ∧ IsBag h' w l (n + 2 + i) ∧ Ext (Om w) h h') ⟨_, none, rfl, Nat.le_refl 1, W4, E03.trans E4⟩ ?_ ?_
  · rintro _ h5 ⟨s, o6, rfl, ls, W5, E5⟩
    refine ⟨jRng_end, ?_⟩
    have K5 : h5[t]? = some (.lst []) := E5.keep _ _ K tw
    have it := oInF_strs (h := h5) (d := .str s) (.str (by omega)) (b := .ref t) (ss := []) (by simp [seqD, K5])
    have it : oInF (.str s) (.ref t) h5 = some (.bl false, h5) := it
    have ww := oInF_strs (h := h5) (d := .str s) (.str (by omega)) (b := .tup (WRD.map D.str)) (ss := WRD) rfl
    have ww : oInF (.str s) (.tup [D.str "def", D.str "else", D.str "give", D.str "if", D.str "kind", D.str "let", D.str "match", D.str "whole"]) h5 = some (.bl (inStrs WRD (.str s)), h5) := ww
    cases wb : inStrs WRD (.str s) with
    | false =>
      rw [wb] at ww
      obtain ⟨h6, ap, E6⟩ := fin s h5 K5
      simp -implicitDefEqProofs [-List.append_assoc, -List.length_append, -List.cons_append, it, ww, K5, ap]
      exact ⟨s, rfl, by omega, bg W5 E6 (by omega), (E5.weak fun i _ z => .inl z).trans (E6.weak fun i _ z => .inr z)⟩
    | true =>
      rw [wb] at ww
      simp -implicitDefEqProofs [-List.append_assoc, -List.length_append, -List.cons_append, it, ww, K5]
      have ls : s.length ≤ 5 := by omega
      have sl : ∀ h, oSl (.str s) none (some 4) h = some (.str (cutS s none (some 4)), h) := fun h => by
        have : s.length ≤ sizeLine := le_sl (by omega)
        simp [oSl, this]
      have lp := cut_len (z := s) (lo := none) (hi := some 4)
      generalize cutS s none (some 4) = p at sl lp
      have l0 : ("0" : Str).length = 1 := by decide
      have lq : (p ++ "0" : Str).length ≤ 10 := by rw [app_len]; omega
      have ad : ∀ h, oAdd (.str p) (.str ("0" : Str)) h = some (.str (p ++ "0"), h) := fun h => by
        simp only [oAdd]
        rw [if_pos (le_sl (by omega))]
      have bs : ∀ h, bStr [.int 0] h = some (.str ("0" : Str), h) := fun h => rfl
      generalize (p ++ "0" : Str) = q at ad lq
      refine wS.bind (spec.lct (R := fun d h' => d = .ref h5.length ∧ h' = h5 ++ [.lst [.str q]]) (xs := [(0 : Int)]) (enc := D.int) (fun _ => some (.str q)) rfl (lt_sl (by decide)) (fun acc i => ?_) (fun m hm acc => ⟨_, rfl, ?_⟩) ⟨rfl, rfl⟩) ?_
      · cases i with
        | zero => rfl
        | succ i => simp [jRng]
      · rw [List.mem_singleton.mp hm]
        have nt := oNotInF_strs (h := h5 ++ [.lst acc]) (d := .str q) (.str (by omega)) (b := .ref t) (ss := []) (by simp only [seqD]; rw [push_get K5]; rfl)
        have nt : oNotInF (.str q) (.ref t) (h5 ++ [.lst acc]) = some (.bl true, h5 ++ [.lst acc]) := nt
        simp -implicitDefEqProofs [-List.append_assoc, -List.length_append, -List.cons_append, wipeR, sl, bs, ad, nt]
      rintro _ _ ⟨rfl, rfl⟩
      generalize xe : h5 ++ [_] = h6
      have q6 := new_of xe
      have K6 := get_of xe K5
      have W6 := W5.ext (ext_of xe)
      have E6 : Ext (Om w) h h6 := E5.trans (ext_of xe)
      clear xe
      have og : oGet (.ref h5.length) (.int 0) h6 = some (.str q, h6) := by rw [oGet_lst q6]; rfl
      obtain ⟨h7, ap, E7⟩ := fin q h6 K6
      simp -implicitDefEqProofs [-List.append_assoc, -List.length_append, -List.cons_append, og, K6, ap]
      exact ⟨q, rfl, by omega, bg W6 E7 (by omega), (E6.weak fun i _ z => .inl z).trans (E7.weak fun i _ z => .inr z)⟩
  · rintro i _ h5 hi ⟨s, o6, rfl, ls, W5, E5⟩
    refine ⟨_, _, _, jRng_at hi, rfl, ?_⟩
    simp -implicitDefEqProofs [-List.append_assoc, -List.length_append, -List.cons_append, ad1, ad2]
    refine wS.bind (dr W5 ⟨by decide, by decide⟩ (by omega)) ?_
    rintro _ h6 ⟨x, rfl, hx, W6, E6⟩
    have l62 : (LET ++ DIG).length = 62 := by decide
    obtain ⟨c, cm, ec⟩ := strAtM (h := h6) (z := LET ++ DIG) (x := x) (by omega) hx.1 (by omega)
    have l1 : s.length + (⟨#[c]⟩ : Str).length ≤ sizeLine := le_sl (by show s.length + 1 ≤ _; omega)
    have ea : oAdd (.str s) (.str ⟨#[c]⟩) h6 = some (.str (s ++ ⟨#[c]⟩), h6) := by simp only [oAdd]; rw [if_pos l1]
    simp -implicitDefEqProofs [-List.append_assoc, -List.length_append, -List.cons_append, ec, ea]
    exact ⟨s ++ ⟨#[c]⟩, some (.int (i : Int)), by simp, by rw [app_len]; show s.length + 1 ≤ _; omega, W6, E5.trans E6⟩
end
end K00
namespace K00
open PySem PySem.Spec L2 PI
open PyProof.Rows hiding St
/-- the classes, in the law's order -/
def NS : List Str := [("BadText" : Str), ("NotChecked" : Str), ("NotRight" : Str), ("NotLet" : Str), ("BadListing" : Str), ("Refused" : Str), ("BadAmounts" : Str), ("BadArgs" : Str), ("BadBook" : Str), ("BadCore" : Str), ("BadEffort" : Str), ("BadGoal" : Str), ("BadHints" : Str), ("BadImage" : Str), ("BadIndex" : Str), ("BadKind" : Str), ("BadLevels" : Str), ("BadLimit" : Str), ("BadLine" : Str), ("BadLog" : Str), ("BadMeasures" : Str), ("BadName" : Str), ("BadNeeds" : Str), ("BadNever" : Str), ("BadNumber" : Str), ("BadPlacing" : Str), ("BadPoint" : Str), ("BadProgram" : Str), ("BadRatio" : Str), ("BadRow" : Str), ("BadShowings" : Str), ("BadSteps" : Str), ("BadSystem" : Str), ("BadTemplate" : Str), ("BadVariable" : Str), ("NoCells" : Str), ("NotNew" : Str), ("TooGreat" : Str), ("Unfit" : Str), ("ZeroBottom" : Str)]
abbrev Fl := List (Str × D)
/-- exceptions that stand at these places -/
def Ats (ca : Ev) (h : Hh) : List Nat → List (Str × Fl) → Prop
  | [], [] => True
  | r :: rs, c :: cs => h[r]? = some (.exo c.1 (ca c.1) c.2) ∧ Ats ca h rs cs
  | _, _ => False
section
variable {ca : Ev} {h h1 : Hh} {ρ : Rho}
theorem Ats.ext : ∀ {rs : List Nat} {cs : List (Str × Fl)}, Ats ca h rs cs → Ext noS h h1 → Ats ca h1 rs cs
  | [], [], _, _ => trivial
  | r :: rs, c :: cs, ⟨a, b⟩, E => ⟨E.get a, b.ext E⟩
  | [], _ :: _, z, _ => z.elim
  | _ :: _, [], z, _ => z.elim
theorem Ats.len : ∀ {rs : List Nat} {cs : List (Str × Fl)}, Ats ca h rs cs → rs.length = cs.length
  | [], [], _ => rfl
  | r :: rs, c :: cs, ⟨_, b⟩ => by simp [b.len]
  | [], _ :: _, z => z.elim
  | _ :: _, [], z => z.elim
theorem Ats.get : ∀ {rs : List Nat} {cs : List (Str × Fl)} {i : Nat} {c : Str × Fl}, Ats ca h rs cs → cs[i]? = some c → ∃ r, rs[i]? = some r ∧ h[r]? = some (.exo c.1 (ca c.1) c.2)
  | r :: rs, c :: cs, 0, d, ⟨a, _⟩, e => by
    have : c = d := by simpa using e
    subst this
    exact ⟨r, rfl, a⟩
  | r :: rs, c :: cs, i + 1, d, ⟨_, b⟩, e => by
    obtain ⟨r', e1, e2⟩ := b.get (i := i) (c := d) (by simpa using e)
    exact ⟨r', by simpa using e1, e2⟩
  | [], [], i, d, _, e => by simp at e
  | [], _ :: _, _, _, z, _ => z.elim
  | _ :: _, [], _, _, z, _ => z.elim
theorem Ats.app : ∀ {rs rs' : List Nat} {cs cs' : List (Str × Fl)}, Ats ca h rs cs → Ats ca h rs' cs' → Ats ca h (rs ++ rs') (cs ++ cs')
  | [], _, [], _, _, b => b
  | r :: rs, _, c :: cs, _, ⟨a, b⟩, d => ⟨a, b.app d⟩
  | [], _, _ :: _, _, z, _ => z.elim
  | _ :: _, _, [], _, z, _ => z.elim
abbrev It := ME × Str × Fl
def itsM (its : List It) : MA := its.foldr (fun t m => mCons t.1 m) mNil
theorem items_ok : ∀ (its : List It) (h : Hh), (∀ t ∈ its, ∀ h, t.1 ρ h = .ok (.ref h.length) (h ++ [.exo t.2.1 (ca t.2.1) t.2.2])) →
    ∃ (rs : List Nat) (h' : Hh), itsM its ρ h = .ok (rs.map D.ref) h' ∧ Ats ca h' rs (its.map (·.2)) ∧ Ext noS h h'
  | [], h, _ => ⟨[], h, rfl, trivial, .refl⟩
  | t :: its, h, hp => by
    obtain ⟨rs, h', e1, e2, e3⟩ := items_ok its (h ++ [.exo t.2.1 (ca t.2.1) t.2.2]) fun t' ht => hp t' (List.mem_cons_of_mem _ ht)
    refine ⟨h.length :: rs, h', ?_, ⟨e3.get push_new, e2⟩, Ext.push.trans e3⟩
    show mCons t.1 (itsM its) ρ h = _
    rw [mCons_ap, hp t List.mem_cons_self]
    simp [e1]
/-- found = found + [..] -/
theorem add_ok {w p x i n : Option D} {r : Nat} {rs : List Nat} (its : List It) (hr : h[r]? = some (.lst (rs.map D.ref))) (hl : rs.length + its.length ≤ 1000)
    (hp : ∀ t ∈ its, ∀ h, t.1 [w, p, x, i, n, some (.ref r)] h = .ok (.ref h.length) (h ++ [.exo t.2.1 (ca t.2.1) t.2.2])) :
    ∃ (r' : Nat) (rs' : List Nat) (h' : Hh), mOp oAdd (mVar 5) (mLst (itsM its)) [w, p, x, i, n, some (.ref r)] h = .ok (.ref r') h' ∧ h'[r']? = some (.lst ((rs ++ rs').map D.ref)) ∧ Ats ca h' rs' (its.map (·.2)) ∧ Ext noS h h' := by
  obtain ⟨rs', h1, e1, e2, e3⟩ := items_ok its h hp
  have l1 := e2.len
  rw [List.length_map] at l1
  have hr1 := push_get (l := [Ob.lst (rs'.map D.ref)]) (e3.get hr)
  have hn : (h1 ++ [Ob.lst (rs'.map D.ref)])[h1.length]? = some (.lst (rs'.map D.ref)) := push_new
  refine ⟨h1.length + 1, rs', h1 ++ [.lst (rs'.map D.ref)] ++ [.lst ((rs ++ rs').map D.ref)], ?_, ?_, (e2.ext .push).ext .push, (e3.trans .push).trans .push⟩
  · have cc : rs.length + rs'.length ≤ sizeLine := le_sl (by omega)
    have ad : oAdd (.ref r) (.ref h1.length) (h1 ++ [Ob.lst (rs'.map D.ref)]) = some (.ref (h1.length + 1), h1 ++ [.lst (rs'.map D.ref)] ++ [.lst ((rs ++ rs').map D.ref)]) := by
      simp only [oAdd, hr1, hn, List.length_map, if_pos cc]
      simp
    have ml : mLst (itsM its) [w, p, x, i, n, some (.ref r)] h = .ok (.ref h1.length) (h1 ++ [Ob.lst (rs'.map D.ref)]) := by
      have cc : (rs'.map D.ref).length ≤ sizeLine := le_sl (by rw [List.length_map]; omega)
      rw [mLst_ap, e1]
      simp [Out.bind, cc, -List.length_map]
    have mv : mVar 5 [w, p, x, i, n, some (.ref r)] h = .ok (.ref r) h := rfl
    rw [mOp_ap, mv]
    simp [ml, ad, -mLst_ap]
  · have : h1.length + 1 = (h1 ++ [Ob.lst (rs'.map D.ref)]).length := by simp
    rw [this]
    exact push_new
theorem seq_set {Q : Po} {i : Nat} {X : ME} {b : MS} {d : D} (e : X ρ h = .ok d h1) (k : @wS (b (ρ.set i (some d)) h1) Q) : @wS (mSeq (mSet i X) b ρ h) Q := by
  have : mSeq (mSet i X) b ρ h = b (ρ.set i (some d)) h1 := by
    show ((X ρ h).bindS ρ fun d h1 => OutS.nx (ρ.set i (some d)) h1).seq b = _
    rw [e]; rfl
  rw [this]; exact k
theorem seq_ret {Q : Po} {X : ME} {d : D} (e : X ρ h = .ok d h1) (k : Q.rt d h1) : @wS (mRet X ρ h) Q := by
  have : mRet X ρ h = .rt d h1 := by
    show ((X ρ h).bindS ρ fun d h1 => OutS.rt d h1) = _
    rw [e]; rfl
  rw [this]; unfold wS; exact k
theorem lst_eq {ma : MA} {ds : List D} (e : ma ρ h = .ok ds h1) (l : ds.length ≤ sizeLine) : mLst ma ρ h = .ok (.ref h1.length) (h1 ++ [.lst ds]) := by
  rw [mLst_ap, e]
  simp only [Out.bind, if_pos l]
def CS (p x i n : D) : List (Str × Fl) := ([("BadText", [("place", p)]), ("NotChecked", [("what", x)]), ("NotRight", [("what", x)]), ("NotLet", [("index", i)]), ("BadListing", [("line", p)]), ("Refused", [("address", p), ("row", i), ("name", n)])] : List (Str × Fl)) ++ (NS.drop 6).map fun c => (c, [])
def xs6 (ca : Ev) (cs : List Str) : List It := cs.map fun c => (mMkX c (ca c) (mVar 0), c, [])
theorem xs6_ok {d : D} {cs : List Str} (h0 : ρ[0]? = some (some d)) : ∀ t ∈ xs6 ca cs, ∀ h, t.1 ρ h = .ok (.ref h.length) (h ++ [.exo t.2.1 (ca t.2.1) t.2.2]) := fun t ht h => by
  obtain ⟨c, hc, rfl⟩ := List.mem_map.mp ht
  show mMkX c (ca c) (mVar 0) ρ h = _
  have : mVar 0 ρ h = .ok d h := by unfold mVar; rw [h0]
  rw [mMkX_ap, this]; rfl
theorem xs6_cs {cs : List Str} : (xs6 ca cs).map (·.2) = cs.map fun c => (c, []) := by
  unfold xs6
  rw [List.map_map]; rfl
theorem made_ok {w p x i n : D} : spec (F__law_made ca [w, p, x, i, n] h) fun d h' => ∃ (r : Nat) (rs : List Nat), d = .ref r ∧ h'[r]? = some (.lst (rs.map D.ref)) ∧ Ats ca h' rs (CS p x i n) ∧ Ext noS h h' := by
  unfold F__law_made
  apply wO_fn
  unfold m__law_made
  obtain ⟨rs0, h0, e0, a0, E0⟩ := items_ok (ca := ca) (ρ := [some w, some p, some x, some i, some n, none]) [(mMkF "BadText" (ca "BadText") 1 ["place"] [0] (mCons (mVar 1) (mNil)), "BadText", [("place", p)]), (mMkF "NotChecked" (ca "NotChecked") 1 ["what"] [0] (mCons (mVar 2) (mNil)), "NotChecked", [("what", x)]), (mMkF "NotRight" (ca "NotRight") 1 ["what"] [0] (mCons (mVar 2) (mNil)), "NotRight", [("what", x)]), (mMkF "NotLet" (ca "NotLet") 1 ["index"] [0] (mCons (mVar 3) (mNil)), "NotLet", [("index", i)]), (mMkF "BadListing" (ca "BadListing") 1 ["line"] [0] (mCons (mVar 1) (mNil)), "BadListing", [("line", p)]), (mMkF "Refused" (ca "Refused") 3 ["address", "row", "name"] [2, 1, 0] (mCons (mVar 4) (mCons (mVar 3) (mCons (mVar 1) (mNil)))), "Refused", [("address", p), ("row", i), ("name", n)])] h (fun t ht h => by
    simp only [List.mem_cons, List.not_mem_nil, or_false] at ht
    rcases ht with rfl | rfl | rfl | rfl | rfl | rfl <;> rfl)
  have l0 := a0.len
  have l0 : rs0.length = 6 := l0
  have c0 : (rs0.map D.ref).length ≤ sizeLine := le_sl (by rw [List.length_map]; omega)
  refine seq_set (lst_eq e0 c0) ?_
  have q0 : (h0 ++ [Ob.lst (rs0.map D.ref)])[h0.length]? = some (.lst (rs0.map D.ref)) := push_new
  have a0 := a0.ext (h1 := h0 ++ [Ob.lst (rs0.map D.ref)]) .push
  have E0 := E0.trans (h2 := h0 ++ [Ob.lst (rs0.map D.ref)]) .push
  generalize h0 ++ [Ob.lst (rs0.map D.ref)] = g0 at q0 a0 E0
  generalize h0.length = r0 at q0
  obtain ⟨r1, rs1, g1, e1, q1, a1, E1⟩ := add_ok (ca := ca) (w := some w) (p := some p) (x := some x) (i := some i) (n := some n) (xs6 ca ["BadAmounts", "BadArgs", "BadBook", "BadCore", "BadEffort", "BadGoal"]) q0 (by rw [l0]; simp [xs6]) (xs6_ok rfl)
  refine seq_set (h1 := g1) (d := .ref r1) e1 ?_
  rw [xs6_cs] at a1
  have a1 := (a0.ext E1).app a1
  have l1 : (rs0 ++ rs1).length = 12 := a1.len
  generalize rs0 ++ rs1 = ss1 at q1 a1 l1
  obtain ⟨r2, rs2, g2, e2, q2, a2, E2⟩ := add_ok (ca := ca) (w := some w) (p := some p) (x := some x) (i := some i) (n := some n) (xs6 ca ["BadHints", "BadImage", "BadIndex", "BadKind", "BadLevels", "BadLimit"]) q1 (by rw [l1]; simp [xs6]) (xs6_ok rfl)
  rw [xs6_cs] at a2
  have a2 := (a1.ext E2).app a2
  have l2 : (ss1 ++ rs2).length = 18 := a2.len
  generalize ss1 ++ rs2 = ss2 at q2 a2 l2
  refine seq_set (h1 := g2) (d := .ref r2) e2 ?_
  obtain ⟨r3, rs3, g3, e3, q3, a3, E3⟩ := add_ok (ca := ca) (w := some w) (p := some p) (x := some x) (i := some i) (n := some n) (xs6 ca ["BadLine", "BadLog", "BadMeasures", "BadName", "BadNeeds", "BadNever"]) q2 (by rw [l2]; simp [xs6]) (xs6_ok rfl)
  rw [xs6_cs] at a3
  have a3 := (a2.ext E3).app a3
  have l3 : (ss2 ++ rs3).length = 24 := a3.len
  generalize ss2 ++ rs3 = ss3 at q3 a3 l3
  refine seq_set (h1 := g3) (d := .ref r3) e3 ?_
  obtain ⟨r4, rs4, g4, e4, q4, a4, E4⟩ := add_ok (ca := ca) (w := some w) (p := some p) (x := some x) (i := some i) (n := some n) (xs6 ca ["BadNumber", "BadPlacing", "BadPoint", "BadProgram", "BadRatio", "BadRow"]) q3 (by rw [l3]; simp [xs6]) (xs6_ok rfl)
  rw [xs6_cs] at a4
  have a4 := (a3.ext E4).app a4
  have l4 : (ss3 ++ rs4).length = 30 := a4.len
  generalize ss3 ++ rs4 = ss4 at q4 a4 l4
  refine seq_set (h1 := g4) (d := .ref r4) e4 ?_
  obtain ⟨r5, rs5, g5, e5, q5, a5, E5⟩ := add_ok (ca := ca) (w := some w) (p := some p) (x := some x) (i := some i) (n := some n) (xs6 ca ["BadShowings", "BadSteps", "BadSystem", "BadTemplate", "BadVariable", "NoCells"]) q4 (by rw [l4]; simp [xs6]) (xs6_ok rfl)
  rw [xs6_cs] at a5
  have a5 := (a4.ext E5).app a5
  have l5 : (ss4 ++ rs5).length = 36 := a5.len
  generalize ss4 ++ rs5 = ss5 at q5 a5 l5
  refine seq_set (h1 := g5) (d := .ref r5) e5 ?_
  obtain ⟨r6, rs6, g6, e6, q6, a6, E6⟩ := add_ok (ca := ca) (w := some w) (p := some p) (x := some x) (i := some i) (n := some n) (xs6 ca ["NotNew", "TooGreat", "Unfit", "ZeroBottom"]) q5 (by rw [l5]; simp [xs6]) (xs6_ok rfl)
  rw [xs6_cs] at a6
  have a6 := (a5.ext E6).app a6
  have l6 : (ss5 ++ rs6).length = 40 := a6.len
  generalize ss5 ++ rs6 = ss6 at q6 a6 l6
  refine seq_ret e6 ⟨r6, ss6, rfl, q6, a6, ((((((E0.trans E1).trans E2).trans E3).trans E4).trans E5).trans E6)⟩
end
end K00
namespace K00
open PySem PySem.Spec L2 PI
open PyProof.Rows hiding St
/-- whether an error of the class c is one of T -/
def mk (T c : Str) : Bool := decide (T ∈ (xva.lookup c).getD [])
theorem isx_some {T c : Str} (hc : (xva.lookup c).isSome = true) : isx T c = some (mk T c) := by
  unfold isx isxOf mk
  cases e : xva.lookup c with
  | none => rw [e] at hc; cases hc
  | some l => rfl
section
variable {ca : Ev} {h h1 : Hh} {ρ : Rho}
def isxs (ca : Ev) (Ts : List Str) : MA := Ts.foldr (fun T m => mCons (mIsX ca.cls (isx T) (mVar 0)) m) mNil
theorem isxs_ok {j : Nat} {c : Str} {fs : Fl} (h0 : ρ[0]? = some (some (.ref j))) (hj : h[j]? = some (.exo c (ca c) fs)) (hc : (xva.lookup c).isSome = true) : ∀ Ts : List Str, isxs ca Ts ρ h = .ok (Ts.map fun T => .bl (mk T c)) h
  | [] => rfl
  | T :: Ts => by
    have ih := isxs_ok h0 hj hc Ts
    have mv : mVar 0 ρ h = .ok (.ref j) h := by unfold mVar; rw [h0]
    have iv : isV ca.cls (isx T) (.ref j) h = .ok (.bl (mk T c)) h := isV_ref hj (isx_some hc)
    show mCons (mIsX ca.cls (isx T) (mVar 0)) (isxs ca Ts) ρ h = _
    simp [mv, iv, ih]
theorem addB_ok {j r : Nat} {c : Str} {fs : Fl} {bs : List D} (Ts : List Str) (hj : h[j]? = some (.exo c (ca c) fs)) (hc : (xva.lookup c).isSome = true) (hr : h[r]? = some (.lst bs)) (hl : bs.length + Ts.length ≤ 1000) :
    ∃ (r' : Nat) (h' : Hh), mOp oAdd (mVar 1) (mLst (isxs ca Ts)) [some (.ref j), some (.ref r)] h = .ok (.ref r') h' ∧ h'[r']? = some (.lst (bs ++ Ts.map fun T => .bl (mk T c))) ∧ Ext noS h h' := by
  have e1 := isxs_ok (ρ := [some (.ref j), some (.ref r)]) rfl hj hc Ts
  have lt : (Ts.map fun T => D.bl (mk T c)).length = Ts.length := by simp
  generalize (Ts.map fun T => D.bl (mk T c)) = ts at e1 lt
  have hr1 := push_get (l := [Ob.lst ts]) hr
  have hn : (h ++ [Ob.lst ts])[h.length]? = some (.lst ts) := push_new
  refine ⟨h.length + 1, h ++ [.lst ts] ++ [.lst (bs ++ ts)], ?_, ?_, (Ext.push).trans .push⟩
  · have cc : bs.length + ts.length ≤ sizeLine := le_sl (by omega)
    have ad : oAdd (.ref r) (.ref h.length) (h ++ [Ob.lst ts]) = some (.ref (h.length + 1), h ++ [.lst ts] ++ [.lst (bs ++ ts)]) := by
      simp only [oAdd, hr1, hn, if_pos cc]
      simp
    have ml := lst_eq e1 (le_sl (by omega))
    have mv : mVar 1 [some (.ref j), some (.ref r)] h = .ok (.ref r) h := rfl
    rw [mOp_ap, mv]
    simp [ml, ad, -mLst_ap]
  · have : h.length + 1 = (h ++ [Ob.lst ts]).length := by simp
    rw [this]
    exact push_new
theorem marks_ok {j : Nat} {c : Str} {fs : Fl} (hj : h[j]? = some (.exo c (ca c) fs)) (hc : (xva.lookup c).isSome = true) : spec (F__law_marks ca [.ref j] h) fun d h' => ∃ r : Nat, d = .ref r ∧ h'[r]? = some (.lst (NS.map fun T => .bl (mk T c))) ∧ Ext noS h h' := by
  unfold F__law_marks
  apply wO_fn
  unfold m__law_marks
  have hj0 := hj
  have e0 := isxs_ok (ρ := [some (.ref j), none]) rfl hj hc ["BadText", "NotChecked", "NotRight", "NotLet"]
  refine seq_set (lst_eq e0 (le_sl (by simp))) ?_
  have q0 : (h ++ [Ob.lst ((["BadText", "NotChecked", "NotRight", "NotLet"] : List Str).map fun T => D.bl (mk T c))])[h.length]? = some (.lst ((["BadText", "NotChecked", "NotRight", "NotLet"] : List Str).map fun T => D.bl (mk T c))) := push_new
  have E0 : Ext noS h (h ++ [Ob.lst ((["BadText", "NotChecked", "NotRight", "NotLet"] : List Str).map fun T => D.bl (mk T c))]) := .push
  generalize h ++ [Ob.lst ((["BadText", "NotChecked", "NotRight", "NotLet"] : List Str).map fun T => D.bl (mk T c))] = g0 at q0 E0
  generalize h.length = r0 at q0
  obtain ⟨r1, g1, e1, q1, E1'⟩ := addB_ok (ca := ca) ["BadListing", "Refused"] (E0.get hj) hc q0 (by simp)
  have E1 := E0.trans E1'
  refine seq_set e1 ?_
  obtain ⟨r2, g2, e2, q2, E2'⟩ := addB_ok (ca := ca) ["BadAmounts", "BadArgs", "BadBook", "BadCore"] (E1.get hj) hc q1 (by simp)
  have E2 := E1.trans E2'
  refine seq_set e2 ?_
  obtain ⟨r3, g3, e3, q3, E3'⟩ := addB_ok (ca := ca) ["BadEffort", "BadGoal", "BadHints", "BadImage"] (E2.get hj) hc q2 (by simp)
  have E3 := E2.trans E3'
  refine seq_set e3 ?_
  obtain ⟨r4, g4, e4, q4, E4'⟩ := addB_ok (ca := ca) ["BadIndex", "BadKind", "BadLevels", "BadLimit"] (E3.get hj) hc q3 (by simp)
  have E4 := E3.trans E4'
  refine seq_set e4 ?_
  obtain ⟨r5, g5, e5, q5, E5'⟩ := addB_ok (ca := ca) ["BadLine", "BadLog", "BadMeasures", "BadName"] (E4.get hj) hc q4 (by simp)
  have E5 := E4.trans E5'
  refine seq_set e5 ?_
  obtain ⟨r6, g6, e6, q6, E6'⟩ := addB_ok (ca := ca) ["BadNeeds", "BadNever", "BadNumber", "BadPlacing"] (E5.get hj) hc q5 (by simp)
  have E6 := E5.trans E6'
  refine seq_set e6 ?_
  obtain ⟨r7, g7, e7, q7, E7'⟩ := addB_ok (ca := ca) ["BadPoint", "BadProgram", "BadRatio", "BadRow"] (E6.get hj) hc q6 (by simp)
  have E7 := E6.trans E7'
  refine seq_set e7 ?_
  obtain ⟨r8, g8, e8, q8, E8'⟩ := addB_ok (ca := ca) ["BadShowings", "BadSteps", "BadSystem", "BadTemplate"] (E7.get hj) hc q7 (by simp)
  have E8 := E7.trans E8'
  refine seq_set e8 ?_
  obtain ⟨r9, g9, e9, q9, E9'⟩ := addB_ok (ca := ca) ["BadVariable", "NoCells", "NotNew", "TooGreat"] (E8.get hj) hc q8 (by simp)
  have E9 := E8.trans E9'
  refine seq_set e9 ?_
  obtain ⟨r10, g10, e10, q10, E10'⟩ := addB_ok (ca := ca) ["Unfit", "ZeroBottom"] (E9.get hj) hc q9 (by simp)
  have E10 := E9.trans E10'
  exact seq_ret e10 ⟨r10, rfl, q10, E10⟩
end
end K00
namespace K00
open PySem PySem.Spec L2 PI
open PyProof.Rows hiding St
theorem lay_bls (fs : List Bool) : PyData.canLayAll0 (fs.map PyData.bool) = true := by
  induction fs with
  | nil => simp [PyData.canLayAll0]
  | cons f fs ih => simp [PyData.canLayAll0, PyData.canLay0, ih]
theorem dep_bls (fs : List Bool) : PyData.depthAll (fs.map PyData.bool) ≤ 1 := by
  induction fs with
  | nil => simp [PyData.depthAll]
  | cons f fs ih => simp [PyData.depthAll, PyData.depth]; omega
theorem eqv_bls : ∀ fs gs : List Bool, PyData.eqvAll (fs.map PyData.bool) (gs.map PyData.bool) = decide (fs = gs)
  | [], [] => by simp [PyData.eqvAll]
  | [], g :: gs => by simp [PyData.eqvAll]
  | f :: fs, [] => by simp [PyData.eqvAll]
  | f :: fs, g :: gs => by
    have := eqv_bls fs gs
    simp only [List.map_cons, PyData.eqvAll, this, PyData.eqv]
    rw [Bool.eq_iff_iff]
    cases f <;> cases g <;> simp
section
variable {ca : Ev} {h h1 : Hh}
theorem oNeF_bls {a b : Nat} (f : Bool) (fs gs : List Bool) (ea : h[a]? = some (.lst ((f :: fs).map D.bl))) (eb : h[b]? = some (.lst ((f :: fs).map D.bl))) : oNeF (.ref a) (.ref b) h = some (.bl false, h) := by
  have e1 : eqF (.ref a) (.ref b) h = none := by simp [eqF, scalE, kdF, ea, eb]
  have e2 : emF (.ref a) (.ref b) h = none := by simp [emF, seqD, kdF, ea, eb]
  have tp : ∀ i, h[i]? = some (.lst ((f :: fs).map D.bl)) → toPy h 64 (.ref i) = some (.list ((f :: fs).map PyData.bool)) := fun i ei => by
    have := toPys_map (h := h) (n := 63) (enc := D.bl) (py := PyData.bool) (xs := f :: fs) fun x _ => by simp [toPy]
    simp only [toPy, ei, this, Option.map_some]
  have sh : SeqAt.shaped (.list ((f :: fs).map PyData.bool)) = true := by
    have := dep_bls (f :: fs)
    unfold SeqAt.shaped
    rw [show (PyData.list ((f :: fs).map PyData.bool)).canLay0 = true by simp only [PyData.canLay0, lay_bls]]
    generalize f :: fs = l at this
    simp [PyData.depth]
    omega
  have sc : scalD (.ref a) (.ref b) = none := rfl
  have ev : PyData.eqv (.list ((f :: fs).map PyData.bool)) (.list ((f :: fs).map PyData.bool)) = true := by
    simp only [PyData.eqv, eqv_bls, decide_true]
  simp only [oNeF, e1, e2, oNe, oEqB, sc, tp _ ea, tp _ eb, sh, ev]
  rfl
/-- a thing of this depth -/
def Lf (d : D) : Prop := d = .non ∨ (∃ i, d = .int i) ∨ ∃ s : Str, d = .str s ∧ s.length ≤ 1000
def Sm : Nat → D → Prop
  | 0, d => Lf d
  | k + 1, d => Lf d ∨ ∃ xs, d = .tup xs ∧ xs.length ≤ 100 ∧ ∀ x ∈ xs, Sm k x
theorem Sm.up : ∀ {k : Nat} {d : D}, Sm k d → Sm (k + 1) d
  | 0, d, a => .inl a
  | k + 1, d, .inl a => .inl a
  | k + 1, d, .inr ⟨xs, e, l, a⟩ => .inr ⟨xs, e, l, fun x hx => (a x hx).up⟩
theorem same_lf {n : Nat} {d : D} (a : Lf d) : R__law_same ca (n + 1) [d, d] h = .ok (.bl true) h := by
  rw [R__law_same_succ]
  rcases a with rfl | ⟨i, rfl⟩ | ⟨s, rfl, l⟩
  · simp -implicitDefEqProofs [mFn, m__law_same, PI.isNon]
  · have ty : tyD h (.int i) = some "int" := rfl
    have bb : ∀ b, oEqF (.bl b) (.bl b) h = some (.bl true, h) := fun b => by cases b <;> rfl
    simp -implicitDefEqProofs [mFn, m__law_same, ty, subT, PI.isNon, oEqF_int, bb]
  · have ty : tyD h (.str s) = some "str" := rfl
    have bb : ∀ b, oEqF (.bl b) (.bl b) h = some (.bl true, h) := fun b => by cases b <;> rfl
    have ee := oEqF_str (h := h) (d := .str s) (.str (by omega)) (s := s)
    rw [isStr_str, decide_eq_true rfl] at ee
    simp -implicitDefEqProofs [mFn, m__law_same, ty, subT, PI.isNon, ee, bb]
theorem same_ok : ∀ (n : Nat) {d : D} {h : Hh}, Sm n d → spec (R__law_same ca (n + 1) [d, d] h) fun v h' => v = .bl true ∧ Ext noS h h'
  | 0, d, h, a => spec.of (same_lf a) ⟨rfl, .refl⟩
  | n + 1, d, h, .inl a => spec.of (same_lf a) ⟨rfl, .refl⟩
  | n + 1, d, h, .inr ⟨xs, e, l, a⟩ => by
    subst e
    rw [R__law_same_succ]
    have ih : ∀ {x : D} {h : Hh}, x ∈ xs → spec (R__law_same ca (n + 1) [x, x] h) fun v h' => v = .bl true ∧ Ext noS h h' := fun hx => same_ok n (a _ hx)
    generalize R__law_same ca (n + 1) = g at ih
    apply wO_fn
    have ty : tyD h (.tup xs) = some "tuple" := rfl
    have in1 : PI.isNon (.tup xs) = false := rfl
    have ne : oNeF (.int (xs.length : Int)) (.int (xs.length : Int)) h = some (.bl false, h) := by rw [oNeF_int]; simp
    have xb : xs.length < 1000000000 := by omega
    simp -implicitDefEqProofs [-List.append_assoc, -List.length_append, -List.cons_append, m__law_same, in1, ty, subT, ne, xb]
    refine wS.bind (spec.lc (R := fun d h' => d = .ref h.length ∧ h'[h.length]? = some (.lst []) ∧ Ext noS h h') (fun i acc h' => acc = [] ∧ Ext noS h h') (lt_sl (by omega)) ⟨rfl, .push⟩ ?_ ?_) ?_
    · rintro acc h' ⟨rfl, E⟩ e'
      exact ⟨jRng_end, rfl, e', E⟩
    · rintro i acc h' hi ⟨rfl, E⟩ e'
      obtain ⟨x, ex⟩ : ∃ x, xs[i]? = some x := ⟨_, List.getElem?_eq_getElem hi⟩
      have ax : atI xs (i : Int) = some x := atI_nat ex
      refine ⟨_, _, _, jRng_at hi, rfl, ?_⟩
      simp -implicitDefEqProofs [-List.append_assoc, -List.length_append, -List.cons_append, wipeR, ax]
      refine wO.bind (ih (List.mem_of_getElem? ex)) ?_
      rintro _ h2 ⟨rfl, E2⟩
      simp -implicitDefEqProofs [-List.append_assoc, -List.length_append, -List.cons_append]
      exact ⟨fun z => (by cases z), fun _ => ⟨E2.get e', rfl, E.trans E2⟩⟩
    rintro _ h2 ⟨rfl, e2, E2⟩
    have ee := oEqF_lst (push_get (l := [Ob.lst []]) e2) (push_new (h := h2) (o := Ob.lst []))
    simp -implicitDefEqProofs [-List.append_assoc, -List.length_append, -List.cons_append, ee]
    exact ⟨rfl, E2.trans .push⟩
end
end K00
namespace K00
open PySem PySem.Spec L2 PI
open PyProof.Rows hiding St
theorem ns_all : ∀ c ∈ NS, (xva.lookup c).isSome = true ∧ mk "PaidError" c = true ∧ mk "ValueError" c = true := by decide +kernel
theorem ns_at : ((List.range 40).all fun k => decide (NS.map (fun T => mk T (NS.getD k "")) = (List.range 40).map fun a => a == k)) = true := by decide +kernel
theorem ns_pe : NS.map (fun T => mk T "PaidError") = List.replicate 40 false := by decide +kernel
theorem pe_x : (xva.lookup ("PaidError" : Str)).isSome = true ∧ mk "ValueError" "PaidError" = true := by decide +kernel
section
variable {ca : Ev} {h h1 : Hh}
theorem wS.cut {a b : MS} {ρ : Rho} {h : Hh} {Q : Po} (P : Rho → Hh → Prop) (w1 : @wS (a ρ h) ⟨P, Q.rt, Q.bk, Q.ct, Q.er⟩) (w2 : ∀ ρ' h', P ρ' h' → @wS (b ρ' h') Q) : @wS (mSeq a b ρ h) Q := by
  rw [mSeq_ap]
  unfold wS at w1
  cases e : a ρ h with
  | nx ρ' h' => rw [e] at w1; exact w2 ρ' h' w1
  | rt d h' => rw [e] at w1; unfold wS; exact w1
  | bk ρ' h' => rw [e] at w1; unfold wS; exact w1
  | ct ρ' h' => rw [e] at w1; unfold wS; exact w1
  | er x ρ' h' => rw [e] at w1; unfold wS; exact w1
  | bad => rw [e] at w1; unfold wS; exact w1
theorem mSeq_assoc {a b c : MS} : mSeq a (mSeq b c) = mSeq (mSeq a b) c := by
  funext ρ h
  simp only [mSeq_ap]
  cases a ρ h <;> rfl
theorem cs_ns {p x i n : D} : (CS p x i n).map (·.1) = NS := rfl
theorem bag_ok {ns : List Int} (hl : ns.length ≤ 63) : F__law_bag ca [.rol (ns.map D.int)] [] = .ok (.ref 1) [.lst (ns.map D.int), .lst [.ref 0, .int 0, .int 0]] := by
  unfold F__law_bag
  simp -implicitDefEqProofs [mFn, m__law_bag]
theorem oNeF_bl2 {a b : Nat} {bs : List Bool} (ne : bs ≠ []) (ea : h[a]? = some (.lst (bs.map D.bl))) (eb : h[b]? = some (.lst (bs.map D.bl))) : oNeF (.ref a) (.ref b) h = some (.bl false, h) := by
  cases bs with
  | nil => exact absurd rfl ne
  | cons f fs => exact oNeF_bls f fs fs ea eb
/-- what stands ahead of the making -/
def LW (ns : List Int) (ρ : Rho) (h' : Hh) : Prop := ∃ (nm ws : Str) (p i : Int) (x : D), nm.length ≤ 10 ∧ ws.length ≤ 30 ∧ Sm 2 x ∧ ρ = [some (.rol (ns.map D.int)), some (.ref 1), some (.str nm), some (.str ws), some (.int p), some (.int i), some x, none, none, none, none, none, none]
theorem law_spec {ns : List Int} (hl : ns.length ≤ 63) : spec (F_law ca [.rol (ns.map D.int)] []) fun v h' => v = .bl true := by
  unfold F_law
  have we := bag_ok (ca := ca) hl
  generalize F__law_bag ca = gb at we
  have wd := fun {h : Hh} {n t : Nat} {b : Bool} (W : IsBag h 1 0 n) (K : h[t]? = some (.lst [])) (tw : t ≠ 1) (tl : t ≠ 0) (hn : (n : Int) + 20 ≤ 10 ^ 100) => word_ok (ca := ca) (b := b) W K tw tl hn
  generalize F__law_word ca = gw at wd
  have dr : pickT (F__law_pick ca) 1 0 := pick_T
  generalize F__law_pick ca = gd at dr
  have md := fun {h : Hh} {w p x i n : D} => made_ok (ca := ca) (h := h) (w := w) (p := p) (x := x) (i := i) (n := n)
  generalize F__law_made ca = gm at md
  have mr := fun {h : Hh} {j : Nat} {c : Str} {fs : Fl} (hj : h[j]? = some (.exo c (ca c) fs)) (hc : (xva.lookup c).isSome = true) => marks_ok (ca := ca) hj hc
  generalize F__law_marks ca = gk at mr
  have sa : ∀ {d : D} {h : Hh}, Sm 4 d → spec (F__law_same ca [d, d] h) fun v h' => v = .bl true ∧ Ext noS h h' := fun a => same_ok 4 a
  generalize F__law_same ca = gs at sa
  apply wO_fn
  have W0 : IsBag [.lst (ns.map D.int), .lst [.ref 0, .int 0, .int 0]] 1 0 0 := ⟨0, 0, ns, rfl, rfl, by omega, by omega, by omega, by omega⟩
  unfold m_law
  rw [mSeq_assoc, mSeq_assoc, mSeq_assoc, mSeq_assoc]
  refine wS.cut (LW ns) ?_ ?_
  · simp -implicitDefEqProofs [-List.append_assoc, -List.length_append, -List.cons_append, we]
    obtain ⟨h2, eh⟩ : ∃ h2 : Hh, ([Ob.lst (ns.map D.int), Ob.lst [D.ref 0, D.int 0, D.int 0], Ob.lst []] : Hh) = h2 := ⟨_, rfl⟩
    rw [eh]
    have W2 : IsBag h2 1 0 0 := by rw [← eh]; exact ⟨0, 0, ns, rfl, rfl, by omega, by omega, by omega, by omega⟩
    have q2 : h2[2]? = some (.lst []) := by rw [← eh]; rfl
    have l2 : h2.length = 3 := by rw [← eh]; rfl
    clear eh
    refine wS.bind (wd W2 q2 (by omega) (by omega) (by decide)) ?_
    rintro _ h3 ⟨nm, rfl, ln, W3, E3⟩
    have lE3 := E3.len
    have sp : (" " : Str).length = 1 := by decide
    have a1 : ∀ h, oAdd (.str nm) (.str (" " : Str)) h = some (.str (nm ++ " "), h) := fun h => by
      simp only [oAdd]; rw [if_pos (le_sl (by omega))]
    have ln2 : (nm ++ " " : Str).length ≤ 11 := by rw [app_len]; omega
    generalize (nm ++ " " : Str) = nm2 at a1 ln2
    simp -implicitDefEqProofs [-List.append_assoc, -List.length_append, -List.cons_append, a1]
    generalize xe : h3 ++ [_] = h4
    have q4 := new_of xe
    have W4 := W3.ext (ext_of xe)
    have l4 := len_of xe
    clear xe
    refine wS.bind (wd W4 q4 (by omega) (by omega) (by decide)) ?_
    rintro _ h5 ⟨w2, rfl, lw2, W5, E5⟩
    have a2 : ∀ h, oAdd (.str nm2) (.str w2) h = some (.str (nm2 ++ w2), h) := fun h => by
      simp only [oAdd]; rw [if_pos (le_sl (by omega))]
    have lws : (nm2 ++ w2 : Str).length ≤ 30 := by rw [app_len]; omega
    generalize (nm2 ++ w2 : Str) = ws at a2 lws
    have p6 : powOk 10 6 = true := by decide
    simp -implicitDefEqProofs [-List.append_assoc, -List.length_append, -List.cons_append, a2, p6]
    refine wS.bind (dr W5 ⟨by decide, by decide⟩ (by decide)) ?_
    rintro _ h6 ⟨p, rfl, hp, W6, E6⟩
    (try simp -implicitDefEqProofs [-List.append_assoc, -List.length_append, -List.cons_append])
    refine wS.bind (dr W6 ⟨by decide, by decide⟩ (by decide)) ?_
    rintro _ h7 ⟨i, rfl, hi, W7, E7⟩
    have sl : ∀ h, oSl (.str ws) none (some 3) h = some (.str (cutS ws none (some 3)), h) := fun h => by
      have : ws.length ≤ sizeLine := le_sl (by omega)
      simp [oSl, this]
    have lc := cut_len (z := ws) (lo := none) (hi := some 3)
    generalize cutS ws none (some 3) = wc at sl lc
    simp -implicitDefEqProofs [-List.append_assoc, -List.length_append, -List.cons_append, sl]
    refine wS.bind (dr W7 ⟨by decide, by decide⟩ (by decide)) ?_
    rintro _ h8 ⟨y, rfl, hy, W8, E8⟩
    have s0 : Sm 2 (.tup [.str ws, .non]) := .inr ⟨_, rfl, by simp, fun z hz => by
      simp only [List.mem_cons, List.not_mem_nil, or_false] at hz
      rcases hz with rfl | rfl
      · exact .inl (.inr (.inr ⟨ws, rfl, by omega⟩))
      · exact .inl (.inl rfl)⟩
    have s1 : Sm 2 (.tup [.str ws, .int p, .tup [.str ("use" : Str), .int i]]) := .inr ⟨_, rfl, by simp, fun z hz => by
      simp only [List.mem_cons, List.not_mem_nil, or_false] at hz
      rcases hz with rfl | rfl | rfl
      · exact .inl (.inr (.inr ⟨ws, rfl, by omega⟩))
      · exact .inl (.inr (.inl ⟨p, rfl⟩))
      · refine .inr ⟨_, rfl, by simp, fun z hz => ?_⟩
        simp only [List.mem_cons, List.not_mem_nil, or_false] at hz
        rcases hz with rfl | rfl
        · exact .inr (.inr ⟨_, rfl, by decide⟩)
        · exact .inr (.inl ⟨i, rfl⟩)⟩
    have s2 : Sm 2 (.tup [.str wc, .str ws]) := .inr ⟨_, rfl, by simp, fun z hz => by
      simp only [List.mem_cons, List.not_mem_nil, or_false] at hz
      rcases hz with rfl | rfl
      · exact .inl (.inr (.inr ⟨wc, rfl, by omega⟩))
      · exact .inl (.inr (.inr ⟨ws, rfl, by omega⟩))⟩
    rcases (show y = 0 ∨ y = 1 ∨ y = 2 by omega) with rfl | rfl | rfl
    · simp -implicitDefEqProofs [-List.append_assoc, -List.length_append, -List.cons_append, atI, ixN]
      exact ⟨nm, ws, p, i, _, ln, lws, s0, rfl⟩
    · simp -implicitDefEqProofs [-List.append_assoc, -List.length_append, -List.cons_append, atI, ixN]
      exact ⟨nm, ws, p, i, _, ln, lws, s1, rfl⟩
    · simp -implicitDefEqProofs [-List.append_assoc, -List.length_append, -List.cons_append, atI, ixN]
      exact ⟨nm, ws, p, i, _, ln, lws, s2, rfl⟩
  rintro _ h2 ⟨nm, ws, p, i, x, ln, lws, sx, rfl⟩
  simp -implicitDefEqProofs [-List.append_assoc, -List.length_append, -List.cons_append]
  refine wS.bind (md) ?_
  rintro _ h3 ⟨r, rs, rfl, q3, a3, E3⟩
  have l40 : rs.length = 40 := a3.len
  simp -implicitDefEqProofs [-List.append_assoc, -List.length_append, -List.cons_append, q3, l40]
  refine wS.loop (fun k ρ h' => ∃ (o8 : Option D), ρ = [some (.rol (ns.map D.int)), some (.ref 1), some (.str nm), some (.str ws), some (.int p), some (.int i), some x, some (.ref r), o8, none, none, none, none] ∧ Ext noS h3 h') ⟨none, rfl, .refl⟩ ?_ ?_
  · rintro _ h4 ⟨o8, rfl, E4⟩
    refine ⟨jRng_end, ?_⟩
    have q4 := E4.get q3
    have a4 := a3.ext E4
    simp -implicitDefEqProofs [-List.append_assoc, -List.length_append, -List.cons_append]
    have i3 := isV_ref (ca := ca.cls) (is := isx "ValueError") (push_new (h := h4) (o := Ob.exo "PaidError" (ca "PaidError") [])) (isx_some pe_x.1)
    rw [pe_x.2] at i3
    simp -implicitDefEqProofs [-List.append_assoc, -List.length_append, -List.cons_append, i3]
    generalize xe : h4 ++ [_] = h5
    have n5 := new_of xe
    have q5 := get_of xe q4
    have a5 := a4.ext (ext_of (S := noS) xe)
    clear xe
    generalize h4.length = b5 at n5
    refine wS.bind (mr n5 pe_x.1) ?_
    rintro _ h6 ⟨r6, rfl, q6, E6⟩
    have q56 := E6.get q5
    have a6 := a5.ext E6
    (try simp -implicitDefEqProofs [-List.append_assoc, -List.length_append, -List.cons_append])
    generalize xe : h6 ++ [_] = h7
    have n7 := new_of xe
    have q7 := get_of xe q56
    have q67 := get_of xe q6
    have a7 := a6.ext (ext_of (S := noS) xe)
    clear xe
    generalize h6.length = b7 at n7
    have mu : oMulA (.ref b7) (.int 40) h7 = some (.ref h7.length, h7 ++ [.lst ((NS.map fun T => mk T "PaidError").map D.bl)]) := by
      rw [ns_pe]
      exact mulL n7 (k := 40) (by decide) (by decide)
    have qa : (h7 ++ [Ob.lst ((NS.map fun T => mk T "PaidError").map D.bl)])[r6]? = some (.lst ((NS.map fun T => mk T "PaidError").map D.bl)) := by
      rw [push_get q67, List.map_map]; rfl
    have qb : (h7 ++ [Ob.lst ((NS.map fun T => mk T "PaidError").map D.bl)])[h7.length]? = some (.lst ((NS.map fun T => mk T "PaidError").map D.bl)) := push_new
    have ne := oNeF_bl2 (by simp [NS] : NS.map (fun T => mk T "PaidError") ≠ []) qa qb
    have q8 := push_get (l := [Ob.lst ((NS.map fun T => mk T "PaidError").map D.bl)]) q7
    have a8 := a7.ext (h1 := h7 ++ [Ob.lst ((NS.map fun T => mk T "PaidError").map D.bl)]) .push
    generalize h7 ++ [Ob.lst ((NS.map fun T => mk T "PaidError").map D.bl)] = h8 at mu ne q8 a8
    clear qa qb
    simp -implicitDefEqProofs [-List.append_assoc, -List.length_append, -List.cons_append, q7, l40, mu, ne]
    obtain ⟨j0, e0, g0⟩ := a8.get (i := 0) rfl
    obtain ⟨j1, e1, g1⟩ := a8.get (i := 1) rfl
    obtain ⟨j2, e2, g2⟩ := a8.get (i := 2) rfl
    obtain ⟨j3, e3, g3⟩ := a8.get (i := 3) rfl
    obtain ⟨j4, e4, g4⟩ := a8.get (i := 4) rfl
    obtain ⟨j5, e5, g5⟩ := a8.get (i := 5) rfl
    have og : ∀ (k j : Nat) (h : Hh), h[r]? = some (.lst (rs.map D.ref)) → rs[k]? = some j → oGet (.ref r) (.int (k : Int)) h = some (.ref j, h) := fun k j h q e => by
      rw [oGet_lst q, atI_nat (v := .ref j) (by rw [List.getElem?_map, e]; rfl)]; rfl
    have o0 := og 0 j0 h8 q8 e0
    have o1 := og 1 j1 h8 q8 e1
    have o2 := og 2 j2 h8 q8 e2
    have o3 := og 3 j3 h8 q8 e3
    have o4 := og 4 j4 h8 q8 e4
    have x0 := xfV_ref (ca := ca.cls) (cs := ["BadText"]) (f := "place") g0 (by simp) rfl
    have x1 := xfV_ref (ca := ca.cls) (cs := ["NotChecked", "NotRight"]) (f := "what") g1 (by simp) rfl
    have x2 := xfV_ref (ca := ca.cls) (cs := ["NotChecked", "NotRight"]) (f := "what") g2 (by simp) rfl
    have x3 := xfV_ref (ca := ca.cls) (cs := ["NotLet"]) (f := "index") g3 (by simp) rfl
    have x4 := xfV_ref (ca := ca.cls) (cs := ["BadListing"]) (f := "line") g4 (by simp) rfl
    have sI : ∀ i k, Sm k (.int i) := fun i k => by cases k with | zero => exact .inr (.inl ⟨i, rfl⟩) | succ k => exact .inl (.inr (.inl ⟨i, rfl⟩))
    have sS : ∀ (s : Str) k, s.length ≤ 1000 → Sm k (.str s) := fun s k l => by cases k with | zero => exact .inr (.inr ⟨s, rfl, l⟩) | succ k => exact .inl (.inr (.inr ⟨s, rfl, l⟩))
    have sx3 := sx.up
    have sT : ∀ (zs : List D), zs.length ≤ 100 → (∀ z ∈ zs, Sm 3 z) → Sm 4 (.tup zs) := fun zs l a => .inr ⟨zs, rfl, l, a⟩
    simp only [show ((0 : Nat) : Int) = 0 from rfl, show ((1 : Nat) : Int) = 1 from rfl, show ((2 : Nat) : Int) = 2 from rfl, show ((3 : Nat) : Int) = 3 from rfl, show ((4 : Nat) : Int) = 4 from rfl] at o0 o1 o2 o3 o4
    simp -implicitDefEqProofs [-List.append_assoc, -List.length_append, -List.cons_append, o0, o1, o2, o3, o4, x0, x1, x2, x3, x4]
    have t1 : Sm 4 (.tup [.int p, x, x, .int i, .int p]) := sT _ (by simp) (fun z hz => by
      simp only [List.mem_cons, List.not_mem_nil, or_false] at hz
      rcases hz with rfl | rfl | rfl | rfl | rfl
      · exact sI _ 3
      · exact sx3
      · exact sx3
      · exact sI _ 3
      · exact sI _ 3)
    refine wS.bind (sa t1) ?_
    rintro _ h9 ⟨rfl, E9⟩
    have q9 := E9.get q8
    have g9 := E9.get g5
    have o5 := og 5 j5 h9 q9 e5
    simp only [show ((5 : Nat) : Int) = 5 from rfl] at o5
    have x5 := fun f d hf => xfV_ref (ca := ca.cls) (cs := ["Refused"]) (f := f) (x := d) g9 (by simp) hf
    have y1 := x5 "name" (.str nm) rfl
    have y2 := x5 "row" (.int i) rfl
    have y3 := x5 "address" (.int p) rfl
    clear x5
    simp -implicitDefEqProofs [-List.append_assoc, -List.length_append, -List.cons_append, o5, y1, y2, y3]
    have t2 : Sm 4 (.tup [.str nm, .int i, .int p]) := sT _ (by simp) (fun z hz => by
      simp only [List.mem_cons, List.not_mem_nil, or_false] at hz
      rcases hz with rfl | rfl | rfl
      · exact sS _ 3 (by omega)
      · exact sI _ 3
      · exact sI _ 3)
    refine wS.bind (sa t2) ?_
    rintro _ h10 ⟨rfl, E10⟩
    simp -implicitDefEqProofs [-List.append_assoc, -List.length_append, -List.cons_append, perm]
    generalize xe : h10 ++ [_] = h11
    have n11 := new_of xe
    clear xe
    generalize h10.length = b11 at n11
    have x6 := fun f d hf => xfV_ref (ca := ca.cls) (cs := ["Refused"]) (f := f) (x := d) n11 (by simp) hf
    have y1 := x6 "name" (.str ws) rfl
    have y2 := x6 "row" (.int p) rfl
    have y3 := x6 "address" (.int i) rfl
    have nw : ∀ (c : Str) (f : Str) (d : D) (cs : List Str) (h : Hh), c ∈ cs → xfV ca.cls cs f (.ref h.length) (h ++ [.exo c (ca.cls c) [(f, d)]]) = .ok d (h ++ [.exo c (ca.cls c) [(f, d)]]) := fun c f d cs h hc =>
      xfV_ref (ca := ca.cls) push_new hc (by simp [List.lookup])
    have z1 := fun h => nw "BadListing" "line" (.int i) ["BadListing"] h (by simp)
    clear x6
    simp -implicitDefEqProofs [-List.append_assoc, -List.length_append, -List.cons_append, y1, y2, y3, z1]
    have t3 : Sm 4 (.tup [.str ws, .int p, .int i, .int i]) := sT _ (by simp) (fun z hz => by
      simp only [List.mem_cons, List.not_mem_nil, or_false] at hz
      rcases hz with rfl | rfl | rfl | rfl
      · exact sS _ 3 (by omega)
      · exact sI _ 3
      · exact sI _ 3
      · exact sI _ 3)
    refine wS.bind (sa t3) ?_
    rintro _ h12 ⟨rfl, E12⟩
    have w1 := fun h => nw "BadText" "place" (.int i) ["BadText"] h (by simp)
    have w2 := fun h => nw "NotChecked" "what" x ["NotChecked", "NotRight"] h (by simp)
    have w3 := fun h => nw "NotRight" "what" x ["NotChecked", "NotRight"] h (by simp)
    have w4 := fun h => nw "NotLet" "index" (.int p) ["NotLet"] h (by simp)
    have t4 : Sm 4 (.tup [.int i, x, x, .int p]) := sT _ (by simp) (fun z hz => by
      simp only [List.mem_cons, List.not_mem_nil, or_false] at hz
      rcases hz with rfl | rfl | rfl | rfl
      · exact sI _ 3
      · exact sx3
      · exact sx3
      · exact sI _ 3)
    simp -implicitDefEqProofs [-List.append_assoc, -List.length_append, -List.cons_append, perm, w1, w2, w3, w4]
    refine wS.bind (sa t4) ?_
    rintro _ h13 ⟨rfl, E13⟩
    simp -implicitDefEqProofs [-List.append_assoc, -List.length_append, -List.cons_append]
    exact rfl
  · rintro k _ h4 hk ⟨o8, rfl, E4⟩
    have hk : k < 40 := hk
    refine ⟨_, _, _, jRng_at hk, rfl, ?_⟩
    have q4 := E4.get q3
    have a4 := a3.ext E4
    obtain ⟨⟨c, fs⟩, ec⟩ : ∃ c, (CS (.int p) x (.int i) (.str nm))[k]? = some c := ⟨_, List.getElem?_eq_getElem (show k < 40 from hk)⟩
    have en : NS[k]? = some c := by rw [← cs_ns (p := .int p) (x := x) (i := .int i) (n := .str nm), List.getElem?_map, ec]; rfl
    obtain ⟨j, ej, hj⟩ := a4.get ec
    obtain ⟨c1, c2, c3⟩ := ns_all c (List.mem_of_getElem? en)
    have og : oGet (.ref r) (.int (k : Int)) h4 = some (.ref j, h4) := by
      rw [oGet_lst q4, atI_nat (v := .ref j) (by rw [List.getElem?_map, ej]; rfl)]; rfl
    have i1 := isV_ref (is := isx "PaidError") hj (isx_some c1)
    have i2 := isV_ref (is := isx "ValueError") hj (isx_some c1)
    rw [c2] at i1
    rw [c3] at i2
    simp -implicitDefEqProofs [-List.append_assoc, -List.length_append, -List.cons_append, og, i1, i2]
    refine wS.bind (mr hj c1) ?_
    rintro _ h5 ⟨r5, rfl, q5, E5⟩
    have q45 := E5.get q4
    simp -implicitDefEqProofs [-List.append_assoc, -List.length_append, -List.cons_append, q45, l40]
    have hat : ∀ (acc : List D) (a : Nat), (jRng 0 40).at_ a (h5 ++ [Ob.lst acc]) = some ((List.range 40).map fun a : Nat => D.int (a : Int))[a]? := fun acc a => by
      by_cases z : a < 40
      · rw [jRng_at z]
        simp [z]
      · have : (List.range 40).length ≤ a := by rw [List.length_range]; omega
        rw [List.getElem?_eq_none (by rw [List.length_map]; exact this)]
        simp [jRng, z]
    refine wS.bind (spec.lct (R := fun d h' => d = .ref h5.length ∧ h' = h5 ++ [.lst ((List.range 40).map fun a : Nat => D.bl ((a : Int) == (k : Int)))]) (xs := List.range 40) (enc := fun a : Nat => D.int (a : Int)) (fun a => some (.bl ((a : Int) == (k : Int)))) rfl (lt_sl (by decide)) hat (fun m hm acc => ⟨_, rfl, ?_⟩) ⟨rfl, by rw [← List.filterMap_eq_map]; rfl⟩) ?_
    · simp -implicitDefEqProofs [wipeR, oEqF_int]
    rintro _ _ ⟨rfl, rfl⟩
    have e1 := List.all_eq_true.mp ns_at k (List.mem_range.mpr hk)
    have e1 := of_decide_eq_true e1
    have e2 : NS.getD k "" = c := by rw [List.getD_eq_getElem?_getD, en]; rfl
    rw [e2] at e1
    have qa : (h5 ++ [Ob.lst ((List.range 40).map fun a : Nat => D.bl ((a : Int) == (k : Int)))])[r5]? = some (.lst ((NS.map fun T => mk T c).map D.bl)) := by
      rw [push_get q5, List.map_map]; rfl
    have qb : (h5 ++ [Ob.lst ((List.range 40).map fun a : Nat => D.bl ((a : Int) == (k : Int)))])[h5.length]? = some (.lst ((NS.map fun T => mk T c).map D.bl)) := by
      rw [push_new, e1, List.map_map]
      congr 2
      refine List.map_congr_left fun a ha => ?_
      show D.bl ((a : Int) == (k : Int)) = D.bl (a == k)
      congr 1
      rw [Bool.eq_iff_iff]
      simp
      omega
    have ne := oNeF_bl2 (by simp [NS] : NS.map (fun T => mk T c) ≠ []) qa qb
    simp -implicitDefEqProofs [-List.append_assoc, -List.length_append, -List.cons_append, ne]
    exact ⟨_, rfl, (E4.trans E5).pushR⟩
theorem law_true (ca : Ev) (ns : List Int) (hn : ns.length ≤ 63) : ∃ h, F_law ca [.rol (ns.map D.int)] [] = .ok (.bl true) h := by
  obtain ⟨a, h, e, rfl⟩ := (law_spec (ca := ca) hn).ex
  exact ⟨h, e⟩
end
end K00
namespace K00
open PySem PySem.Spec L2 PI
open PyProof.Rows hiding St
theorem all_mk {l : PySem.W.OpenLaw} {w : World} {K : PySem.W.Frag} {h : Heap} {mg : Str → Option Value} {fa aPaidError aBadProgram aBadCore aBadName aBadRow aBadKind aBadArgs aBadLimit aBadLog aBadVariable aBadPlacing aBadSteps aBadMeasures aBadNumber aBadBook aBadIndex aBadNever aBadGoal aBadHints aBadShowings aBadNeeds aBadRatio aZeroBottom aBadSystem aBadLine aBadTemplate aBadPoint aBadAmounts aBadLevels aNoCells aNotNew aTooGreat aBadEffort aBadImage aUnfit aBadText aNotChecked aNotRight aNotLet aBadListing aRefused f__law_bag f__law_pick f__law_word f__law_same f__law_marks f__law_made f_law : Addr} (X : K.In h) (G : h.Ns mainGlobals mg) (hfa : mg "law" = some (.ref fa))
    {f_xBadText cda_xBadText cc_xBadText : Addr} {od_xBadText an_xBadText cdd_xBadText cld_xBadText : Option Addr} {sl_xBadText ccs_xBadText csl_xBadText : Array (Option Value)} {oc_xBadText kV_xBadText dc_xBadText pm_xBadText ct_xBadText ccl_xBadText cl_xBadText : Value} {vs_xBadText : Array Value} {file_xBadText : Str} {tf_xBadText : Tok} {oC_xBadText : Obj} {cdC_xBadText : ClassData}
    {f_xNotChecked cda_xNotChecked cc_xNotChecked : Addr} {od_xNotChecked an_xNotChecked cdd_xNotChecked cld_xNotChecked : Option Addr} {sl_xNotChecked ccs_xNotChecked csl_xNotChecked : Array (Option Value)} {oc_xNotChecked kV_xNotChecked dc_xNotChecked pm_xNotChecked ct_xNotChecked ccl_xNotChecked cl_xNotChecked : Value} {vs_xNotChecked : Array Value} {file_xNotChecked : Str} {tf_xNotChecked : Tok} {oC_xNotChecked : Obj} {cdC_xNotChecked : ClassData}
    {f_xNotRight cda_xNotRight cc_xNotRight : Addr} {od_xNotRight an_xNotRight cdd_xNotRight cld_xNotRight : Option Addr} {sl_xNotRight ccs_xNotRight csl_xNotRight : Array (Option Value)} {oc_xNotRight kV_xNotRight dc_xNotRight pm_xNotRight ct_xNotRight ccl_xNotRight cl_xNotRight : Value} {vs_xNotRight : Array Value} {file_xNotRight : Str} {tf_xNotRight : Tok} {oC_xNotRight : Obj} {cdC_xNotRight : ClassData}
    {f_xNotLet cda_xNotLet cc_xNotLet : Addr} {od_xNotLet an_xNotLet cdd_xNotLet cld_xNotLet : Option Addr} {sl_xNotLet ccs_xNotLet csl_xNotLet : Array (Option Value)} {oc_xNotLet kV_xNotLet dc_xNotLet pm_xNotLet ct_xNotLet ccl_xNotLet cl_xNotLet : Value} {vs_xNotLet : Array Value} {file_xNotLet : Str} {tf_xNotLet : Tok} {oC_xNotLet : Obj} {cdC_xNotLet : ClassData}
    {f_xBadListing cda_xBadListing cc_xBadListing : Addr} {od_xBadListing an_xBadListing cdd_xBadListing cld_xBadListing : Option Addr} {sl_xBadListing ccs_xBadListing csl_xBadListing : Array (Option Value)} {oc_xBadListing kV_xBadListing dc_xBadListing pm_xBadListing ct_xBadListing ccl_xBadListing cl_xBadListing : Value} {vs_xBadListing : Array Value} {file_xBadListing : Str} {tf_xBadListing : Tok} {oC_xBadListing : Obj} {cdC_xBadListing : ClassData}
    {f_xRefused cda_xRefused cc_xRefused : Addr} {od_xRefused an_xRefused cdd_xRefused cld_xRefused : Option Addr} {sl_xRefused ccs_xRefused csl_xRefused : Array (Option Value)} {oc_xRefused kV_xRefused dc_xRefused pm_xRefused ct_xRefused ccl_xRefused cl_xRefused : Value} {vs_xRefused : Array Value} {file_xRefused : Str} {tf_xRefused : Tok} {oC_xRefused : Obj} {cdC_xRefused : ClassData}
    {od__law_bag an__law_bag : Option Addr} {sl__law_bag : Array (Option Value)} {oc__law_bag kV__law_bag dc__law_bag pm__law_bag cd__law_bag ct__law_bag : Value}
    {od__law_pick an__law_pick : Option Addr} {sl__law_pick : Array (Option Value)} {oc__law_pick kV__law_pick dc__law_pick pm__law_pick cd__law_pick ct__law_pick : Value}
    {od__law_word an__law_word : Option Addr} {sl__law_word : Array (Option Value)} {oc__law_word kV__law_word dc__law_word pm__law_word cd__law_word ct__law_word : Value}
    {od__law_same an__law_same : Option Addr} {sl__law_same : Array (Option Value)} {oc__law_same kV__law_same dc__law_same pm__law_same cd__law_same ct__law_same : Value}
    {od__law_marks an__law_marks : Option Addr} {sl__law_marks : Array (Option Value)} {oc__law_marks kV__law_marks dc__law_marks pm__law_marks cd__law_marks ct__law_marks : Value}
    {od__law_made an__law_made : Option Addr} {sl__law_made : Array (Option Value)} {oc__law_made kV__law_made dc__law_made pm__law_made cd__law_made ct__law_made : Value}
    {od_law an_law : Option Addr} {sl_law : Array (Option Value)} {oc_law kV_law dc_law pm_law cd_law ct_law : Value}
    (z_ValueError : PySem.W.nsIn K mainGlobals "ValueError" = some none)
    (z_abs : PySem.W.nsIn K mainGlobals "abs" = some none)
    (z_bool : PySem.W.nsIn K mainGlobals "bool" = some none)
    (z_int : PySem.W.nsIn K mainGlobals "int" = some none)
    (z_isinstance : PySem.W.nsIn K mainGlobals "isinstance" = some none)
    (z_len : PySem.W.nsIn K mainGlobals "len" = some none)
    (z_list : PySem.W.nsIn K mainGlobals "list" = some none)
    (z_range : PySem.W.nsIn K mainGlobals "range" = some none)
    (z_str : PySem.W.nsIn K mainGlobals "str" = some none)
    (z_tuple : PySem.W.nsIn K mainGlobals "tuple" = some none)
    (xcB : (xvt aPaidError aBadProgram aBadCore aBadName aBadRow aBadKind aBadArgs aBadLimit aBadLog aBadVariable aBadPlacing aBadSteps aBadMeasures aBadNumber aBadBook aBadIndex aBadNever aBadGoal aBadHints aBadShowings aBadNeeds aBadRatio aZeroBottom aBadSystem aBadLine aBadTemplate aBadPoint aBadAmounts aBadLevels aNoCells aNotNew aTooGreat aBadEffort aBadImage aUnfit aBadText aNotChecked aNotRight aNotLet aBadListing aRefused).all (fun p => excB K p.2) = true)
    (xn : PySem.W.specialIn K (.builtin "object.__class__") "__get__" = some (some (.builtin "getset_descriptor.__get__")))
    (xt : PySem.W.takesIn K (.builtin "object.__class__") = some true)
    (ea_PaidError : PySem.W.nsIn K mainGlobals "PaidError" = some (some (.ref aPaidError)))
    (ek_PaidError : PySem.W.keepIn K (.ref aPaidError) = true)
    (et_PaidError : PySem.W.typeIn K (.ref aPaidError) = some (.type "type"))
    (ed_PaidError : PySem.W.hasDictIn K aPaidError = true)
    (ex_PaidError : PySem.W.excIn K aPaidError [.type "ValueError", .type "Exception", .type "BaseException", .type "object"] "ValueError.__new__" = true)
    (eb_PaidError : PySem.W.subIn K (.ref aPaidError) (.type "BaseException") = some true)
    (ei_PaidError : PySem.W.isClsIn K aPaidError = true)
    (ea_BadProgram : PySem.W.nsIn K mainGlobals "BadProgram" = some (some (.ref aBadProgram)))
    (ek_BadProgram : PySem.W.keepIn K (.ref aBadProgram) = true)
    (et_BadProgram : PySem.W.typeIn K (.ref aBadProgram) = some (.type "type"))
    (ed_BadProgram : PySem.W.hasDictIn K aBadProgram = true)
    (ex_BadProgram : PySem.W.excIn K aBadProgram [.type "ValueError", .type "Exception", .type "BaseException", .type "object"] "ValueError.__new__" = true)
    (eb_BadProgram : PySem.W.subIn K (.ref aBadProgram) (.type "BaseException") = some true)
    (ei_BadProgram : PySem.W.isClsIn K aBadProgram = true)
    (ea_BadCore : PySem.W.nsIn K mainGlobals "BadCore" = some (some (.ref aBadCore)))
    (ek_BadCore : PySem.W.keepIn K (.ref aBadCore) = true)
    (et_BadCore : PySem.W.typeIn K (.ref aBadCore) = some (.type "type"))
    (ed_BadCore : PySem.W.hasDictIn K aBadCore = true)
    (ex_BadCore : PySem.W.excIn K aBadCore [.type "ValueError", .type "Exception", .type "BaseException", .type "object"] "ValueError.__new__" = true)
    (eb_BadCore : PySem.W.subIn K (.ref aBadCore) (.type "BaseException") = some true)
    (ei_BadCore : PySem.W.isClsIn K aBadCore = true)
    (ea_BadName : PySem.W.nsIn K mainGlobals "BadName" = some (some (.ref aBadName)))
    (ek_BadName : PySem.W.keepIn K (.ref aBadName) = true)
    (et_BadName : PySem.W.typeIn K (.ref aBadName) = some (.type "type"))
    (ed_BadName : PySem.W.hasDictIn K aBadName = true)
    (ex_BadName : PySem.W.excIn K aBadName [.type "ValueError", .type "Exception", .type "BaseException", .type "object"] "ValueError.__new__" = true)
    (eb_BadName : PySem.W.subIn K (.ref aBadName) (.type "BaseException") = some true)
    (ei_BadName : PySem.W.isClsIn K aBadName = true)
    (ea_BadRow : PySem.W.nsIn K mainGlobals "BadRow" = some (some (.ref aBadRow)))
    (ek_BadRow : PySem.W.keepIn K (.ref aBadRow) = true)
    (et_BadRow : PySem.W.typeIn K (.ref aBadRow) = some (.type "type"))
    (ed_BadRow : PySem.W.hasDictIn K aBadRow = true)
    (ex_BadRow : PySem.W.excIn K aBadRow [.type "ValueError", .type "Exception", .type "BaseException", .type "object"] "ValueError.__new__" = true)
    (eb_BadRow : PySem.W.subIn K (.ref aBadRow) (.type "BaseException") = some true)
    (ei_BadRow : PySem.W.isClsIn K aBadRow = true)
    (ea_BadKind : PySem.W.nsIn K mainGlobals "BadKind" = some (some (.ref aBadKind)))
    (ek_BadKind : PySem.W.keepIn K (.ref aBadKind) = true)
    (et_BadKind : PySem.W.typeIn K (.ref aBadKind) = some (.type "type"))
    (ed_BadKind : PySem.W.hasDictIn K aBadKind = true)
    (ex_BadKind : PySem.W.excIn K aBadKind [.type "ValueError", .type "Exception", .type "BaseException", .type "object"] "ValueError.__new__" = true)
    (eb_BadKind : PySem.W.subIn K (.ref aBadKind) (.type "BaseException") = some true)
    (ei_BadKind : PySem.W.isClsIn K aBadKind = true)
    (ea_BadArgs : PySem.W.nsIn K mainGlobals "BadArgs" = some (some (.ref aBadArgs)))
    (ek_BadArgs : PySem.W.keepIn K (.ref aBadArgs) = true)
    (et_BadArgs : PySem.W.typeIn K (.ref aBadArgs) = some (.type "type"))
    (ed_BadArgs : PySem.W.hasDictIn K aBadArgs = true)
    (ex_BadArgs : PySem.W.excIn K aBadArgs [.type "ValueError", .type "Exception", .type "BaseException", .type "object"] "ValueError.__new__" = true)
    (eb_BadArgs : PySem.W.subIn K (.ref aBadArgs) (.type "BaseException") = some true)
    (ei_BadArgs : PySem.W.isClsIn K aBadArgs = true)
    (ea_BadLimit : PySem.W.nsIn K mainGlobals "BadLimit" = some (some (.ref aBadLimit)))
    (ek_BadLimit : PySem.W.keepIn K (.ref aBadLimit) = true)
    (et_BadLimit : PySem.W.typeIn K (.ref aBadLimit) = some (.type "type"))
    (ed_BadLimit : PySem.W.hasDictIn K aBadLimit = true)
    (ex_BadLimit : PySem.W.excIn K aBadLimit [.type "ValueError", .type "Exception", .type "BaseException", .type "object"] "ValueError.__new__" = true)
    (eb_BadLimit : PySem.W.subIn K (.ref aBadLimit) (.type "BaseException") = some true)
    (ei_BadLimit : PySem.W.isClsIn K aBadLimit = true)
    (ea_BadLog : PySem.W.nsIn K mainGlobals "BadLog" = some (some (.ref aBadLog)))
    (ek_BadLog : PySem.W.keepIn K (.ref aBadLog) = true)
    (et_BadLog : PySem.W.typeIn K (.ref aBadLog) = some (.type "type"))
    (ed_BadLog : PySem.W.hasDictIn K aBadLog = true)
    (ex_BadLog : PySem.W.excIn K aBadLog [.type "ValueError", .type "Exception", .type "BaseException", .type "object"] "ValueError.__new__" = true)
    (eb_BadLog : PySem.W.subIn K (.ref aBadLog) (.type "BaseException") = some true)
    (ei_BadLog : PySem.W.isClsIn K aBadLog = true)
    (ea_BadVariable : PySem.W.nsIn K mainGlobals "BadVariable" = some (some (.ref aBadVariable)))
    (ek_BadVariable : PySem.W.keepIn K (.ref aBadVariable) = true)
    (et_BadVariable : PySem.W.typeIn K (.ref aBadVariable) = some (.type "type"))
    (ed_BadVariable : PySem.W.hasDictIn K aBadVariable = true)
    (ex_BadVariable : PySem.W.excIn K aBadVariable [.type "ValueError", .type "Exception", .type "BaseException", .type "object"] "ValueError.__new__" = true)
    (eb_BadVariable : PySem.W.subIn K (.ref aBadVariable) (.type "BaseException") = some true)
    (ei_BadVariable : PySem.W.isClsIn K aBadVariable = true)
    (ea_BadPlacing : PySem.W.nsIn K mainGlobals "BadPlacing" = some (some (.ref aBadPlacing)))
    (ek_BadPlacing : PySem.W.keepIn K (.ref aBadPlacing) = true)
    (et_BadPlacing : PySem.W.typeIn K (.ref aBadPlacing) = some (.type "type"))
    (ed_BadPlacing : PySem.W.hasDictIn K aBadPlacing = true)
    (ex_BadPlacing : PySem.W.excIn K aBadPlacing [.type "ValueError", .type "Exception", .type "BaseException", .type "object"] "ValueError.__new__" = true)
    (eb_BadPlacing : PySem.W.subIn K (.ref aBadPlacing) (.type "BaseException") = some true)
    (ei_BadPlacing : PySem.W.isClsIn K aBadPlacing = true)
    (ea_BadSteps : PySem.W.nsIn K mainGlobals "BadSteps" = some (some (.ref aBadSteps)))
    (ek_BadSteps : PySem.W.keepIn K (.ref aBadSteps) = true)
    (et_BadSteps : PySem.W.typeIn K (.ref aBadSteps) = some (.type "type"))
    (ed_BadSteps : PySem.W.hasDictIn K aBadSteps = true)
    (ex_BadSteps : PySem.W.excIn K aBadSteps [.type "ValueError", .type "Exception", .type "BaseException", .type "object"] "ValueError.__new__" = true)
    (eb_BadSteps : PySem.W.subIn K (.ref aBadSteps) (.type "BaseException") = some true)
    (ei_BadSteps : PySem.W.isClsIn K aBadSteps = true)
    (ea_BadMeasures : PySem.W.nsIn K mainGlobals "BadMeasures" = some (some (.ref aBadMeasures)))
    (ek_BadMeasures : PySem.W.keepIn K (.ref aBadMeasures) = true)
    (et_BadMeasures : PySem.W.typeIn K (.ref aBadMeasures) = some (.type "type"))
    (ed_BadMeasures : PySem.W.hasDictIn K aBadMeasures = true)
    (ex_BadMeasures : PySem.W.excIn K aBadMeasures [.type "ValueError", .type "Exception", .type "BaseException", .type "object"] "ValueError.__new__" = true)
    (eb_BadMeasures : PySem.W.subIn K (.ref aBadMeasures) (.type "BaseException") = some true)
    (ei_BadMeasures : PySem.W.isClsIn K aBadMeasures = true)
    (ea_BadNumber : PySem.W.nsIn K mainGlobals "BadNumber" = some (some (.ref aBadNumber)))
    (ek_BadNumber : PySem.W.keepIn K (.ref aBadNumber) = true)
    (et_BadNumber : PySem.W.typeIn K (.ref aBadNumber) = some (.type "type"))
    (ed_BadNumber : PySem.W.hasDictIn K aBadNumber = true)
    (ex_BadNumber : PySem.W.excIn K aBadNumber [.type "ValueError", .type "Exception", .type "BaseException", .type "object"] "ValueError.__new__" = true)
    (eb_BadNumber : PySem.W.subIn K (.ref aBadNumber) (.type "BaseException") = some true)
    (ei_BadNumber : PySem.W.isClsIn K aBadNumber = true)
    (ea_BadBook : PySem.W.nsIn K mainGlobals "BadBook" = some (some (.ref aBadBook)))
    (ek_BadBook : PySem.W.keepIn K (.ref aBadBook) = true)
    (et_BadBook : PySem.W.typeIn K (.ref aBadBook) = some (.type "type"))
    (ed_BadBook : PySem.W.hasDictIn K aBadBook = true)
    (ex_BadBook : PySem.W.excIn K aBadBook [.type "ValueError", .type "Exception", .type "BaseException", .type "object"] "ValueError.__new__" = true)
    (eb_BadBook : PySem.W.subIn K (.ref aBadBook) (.type "BaseException") = some true)
    (ei_BadBook : PySem.W.isClsIn K aBadBook = true)
    (ea_BadIndex : PySem.W.nsIn K mainGlobals "BadIndex" = some (some (.ref aBadIndex)))
    (ek_BadIndex : PySem.W.keepIn K (.ref aBadIndex) = true)
    (et_BadIndex : PySem.W.typeIn K (.ref aBadIndex) = some (.type "type"))
    (ed_BadIndex : PySem.W.hasDictIn K aBadIndex = true)
    (ex_BadIndex : PySem.W.excIn K aBadIndex [.type "ValueError", .type "Exception", .type "BaseException", .type "object"] "ValueError.__new__" = true)
    (eb_BadIndex : PySem.W.subIn K (.ref aBadIndex) (.type "BaseException") = some true)
    (ei_BadIndex : PySem.W.isClsIn K aBadIndex = true)
    (ea_BadNever : PySem.W.nsIn K mainGlobals "BadNever" = some (some (.ref aBadNever)))
    (ek_BadNever : PySem.W.keepIn K (.ref aBadNever) = true)
    (et_BadNever : PySem.W.typeIn K (.ref aBadNever) = some (.type "type"))
    (ed_BadNever : PySem.W.hasDictIn K aBadNever = true)
    (ex_BadNever : PySem.W.excIn K aBadNever [.type "ValueError", .type "Exception", .type "BaseException", .type "object"] "ValueError.__new__" = true)
    (eb_BadNever : PySem.W.subIn K (.ref aBadNever) (.type "BaseException") = some true)
    (ei_BadNever : PySem.W.isClsIn K aBadNever = true)
    (ea_BadGoal : PySem.W.nsIn K mainGlobals "BadGoal" = some (some (.ref aBadGoal)))
    (ek_BadGoal : PySem.W.keepIn K (.ref aBadGoal) = true)
    (et_BadGoal : PySem.W.typeIn K (.ref aBadGoal) = some (.type "type"))
    (ed_BadGoal : PySem.W.hasDictIn K aBadGoal = true)
    (ex_BadGoal : PySem.W.excIn K aBadGoal [.type "ValueError", .type "Exception", .type "BaseException", .type "object"] "ValueError.__new__" = true)
    (eb_BadGoal : PySem.W.subIn K (.ref aBadGoal) (.type "BaseException") = some true)
    (ei_BadGoal : PySem.W.isClsIn K aBadGoal = true)
    (ea_BadHints : PySem.W.nsIn K mainGlobals "BadHints" = some (some (.ref aBadHints)))
    (ek_BadHints : PySem.W.keepIn K (.ref aBadHints) = true)
    (et_BadHints : PySem.W.typeIn K (.ref aBadHints) = some (.type "type"))
    (ed_BadHints : PySem.W.hasDictIn K aBadHints = true)
    (ex_BadHints : PySem.W.excIn K aBadHints [.type "ValueError", .type "Exception", .type "BaseException", .type "object"] "ValueError.__new__" = true)
    (eb_BadHints : PySem.W.subIn K (.ref aBadHints) (.type "BaseException") = some true)
    (ei_BadHints : PySem.W.isClsIn K aBadHints = true)
    (ea_BadShowings : PySem.W.nsIn K mainGlobals "BadShowings" = some (some (.ref aBadShowings)))
    (ek_BadShowings : PySem.W.keepIn K (.ref aBadShowings) = true)
    (et_BadShowings : PySem.W.typeIn K (.ref aBadShowings) = some (.type "type"))
    (ed_BadShowings : PySem.W.hasDictIn K aBadShowings = true)
    (ex_BadShowings : PySem.W.excIn K aBadShowings [.type "ValueError", .type "Exception", .type "BaseException", .type "object"] "ValueError.__new__" = true)
    (eb_BadShowings : PySem.W.subIn K (.ref aBadShowings) (.type "BaseException") = some true)
    (ei_BadShowings : PySem.W.isClsIn K aBadShowings = true)
    (ea_BadNeeds : PySem.W.nsIn K mainGlobals "BadNeeds" = some (some (.ref aBadNeeds)))
    (ek_BadNeeds : PySem.W.keepIn K (.ref aBadNeeds) = true)
    (et_BadNeeds : PySem.W.typeIn K (.ref aBadNeeds) = some (.type "type"))
    (ed_BadNeeds : PySem.W.hasDictIn K aBadNeeds = true)
    (ex_BadNeeds : PySem.W.excIn K aBadNeeds [.type "ValueError", .type "Exception", .type "BaseException", .type "object"] "ValueError.__new__" = true)
    (eb_BadNeeds : PySem.W.subIn K (.ref aBadNeeds) (.type "BaseException") = some true)
    (ei_BadNeeds : PySem.W.isClsIn K aBadNeeds = true)
    (ea_BadRatio : PySem.W.nsIn K mainGlobals "BadRatio" = some (some (.ref aBadRatio)))
    (ek_BadRatio : PySem.W.keepIn K (.ref aBadRatio) = true)
    (et_BadRatio : PySem.W.typeIn K (.ref aBadRatio) = some (.type "type"))
    (ed_BadRatio : PySem.W.hasDictIn K aBadRatio = true)
    (ex_BadRatio : PySem.W.excIn K aBadRatio [.type "ValueError", .type "Exception", .type "BaseException", .type "object"] "ValueError.__new__" = true)
    (eb_BadRatio : PySem.W.subIn K (.ref aBadRatio) (.type "BaseException") = some true)
    (ei_BadRatio : PySem.W.isClsIn K aBadRatio = true)
    (ea_ZeroBottom : PySem.W.nsIn K mainGlobals "ZeroBottom" = some (some (.ref aZeroBottom)))
    (ek_ZeroBottom : PySem.W.keepIn K (.ref aZeroBottom) = true)
    (et_ZeroBottom : PySem.W.typeIn K (.ref aZeroBottom) = some (.type "type"))
    (ed_ZeroBottom : PySem.W.hasDictIn K aZeroBottom = true)
    (ex_ZeroBottom : PySem.W.excIn K aZeroBottom [.type "ValueError", .type "Exception", .type "BaseException", .type "object"] "ValueError.__new__" = true)
    (eb_ZeroBottom : PySem.W.subIn K (.ref aZeroBottom) (.type "BaseException") = some true)
    (ei_ZeroBottom : PySem.W.isClsIn K aZeroBottom = true)
    (ea_BadSystem : PySem.W.nsIn K mainGlobals "BadSystem" = some (some (.ref aBadSystem)))
    (ek_BadSystem : PySem.W.keepIn K (.ref aBadSystem) = true)
    (et_BadSystem : PySem.W.typeIn K (.ref aBadSystem) = some (.type "type"))
    (ed_BadSystem : PySem.W.hasDictIn K aBadSystem = true)
    (ex_BadSystem : PySem.W.excIn K aBadSystem [.type "ValueError", .type "Exception", .type "BaseException", .type "object"] "ValueError.__new__" = true)
    (eb_BadSystem : PySem.W.subIn K (.ref aBadSystem) (.type "BaseException") = some true)
    (ei_BadSystem : PySem.W.isClsIn K aBadSystem = true)
    (ea_BadLine : PySem.W.nsIn K mainGlobals "BadLine" = some (some (.ref aBadLine)))
    (ek_BadLine : PySem.W.keepIn K (.ref aBadLine) = true)
    (et_BadLine : PySem.W.typeIn K (.ref aBadLine) = some (.type "type"))
    (ed_BadLine : PySem.W.hasDictIn K aBadLine = true)
    (ex_BadLine : PySem.W.excIn K aBadLine [.type "ValueError", .type "Exception", .type "BaseException", .type "object"] "ValueError.__new__" = true)
    (eb_BadLine : PySem.W.subIn K (.ref aBadLine) (.type "BaseException") = some true)
    (ei_BadLine : PySem.W.isClsIn K aBadLine = true)
    (ea_BadTemplate : PySem.W.nsIn K mainGlobals "BadTemplate" = some (some (.ref aBadTemplate)))
    (ek_BadTemplate : PySem.W.keepIn K (.ref aBadTemplate) = true)
    (et_BadTemplate : PySem.W.typeIn K (.ref aBadTemplate) = some (.type "type"))
    (ed_BadTemplate : PySem.W.hasDictIn K aBadTemplate = true)
    (ex_BadTemplate : PySem.W.excIn K aBadTemplate [.type "ValueError", .type "Exception", .type "BaseException", .type "object"] "ValueError.__new__" = true)
    (eb_BadTemplate : PySem.W.subIn K (.ref aBadTemplate) (.type "BaseException") = some true)
    (ei_BadTemplate : PySem.W.isClsIn K aBadTemplate = true)
    (ea_BadPoint : PySem.W.nsIn K mainGlobals "BadPoint" = some (some (.ref aBadPoint)))
    (ek_BadPoint : PySem.W.keepIn K (.ref aBadPoint) = true)
    (et_BadPoint : PySem.W.typeIn K (.ref aBadPoint) = some (.type "type"))
    (ed_BadPoint : PySem.W.hasDictIn K aBadPoint = true)
    (ex_BadPoint : PySem.W.excIn K aBadPoint [.type "ValueError", .type "Exception", .type "BaseException", .type "object"] "ValueError.__new__" = true)
    (eb_BadPoint : PySem.W.subIn K (.ref aBadPoint) (.type "BaseException") = some true)
    (ei_BadPoint : PySem.W.isClsIn K aBadPoint = true)
    (ea_BadAmounts : PySem.W.nsIn K mainGlobals "BadAmounts" = some (some (.ref aBadAmounts)))
    (ek_BadAmounts : PySem.W.keepIn K (.ref aBadAmounts) = true)
    (et_BadAmounts : PySem.W.typeIn K (.ref aBadAmounts) = some (.type "type"))
    (ed_BadAmounts : PySem.W.hasDictIn K aBadAmounts = true)
    (ex_BadAmounts : PySem.W.excIn K aBadAmounts [.type "ValueError", .type "Exception", .type "BaseException", .type "object"] "ValueError.__new__" = true)
    (eb_BadAmounts : PySem.W.subIn K (.ref aBadAmounts) (.type "BaseException") = some true)
    (ei_BadAmounts : PySem.W.isClsIn K aBadAmounts = true)
    (ea_BadLevels : PySem.W.nsIn K mainGlobals "BadLevels" = some (some (.ref aBadLevels)))
    (ek_BadLevels : PySem.W.keepIn K (.ref aBadLevels) = true)
    (et_BadLevels : PySem.W.typeIn K (.ref aBadLevels) = some (.type "type"))
    (ed_BadLevels : PySem.W.hasDictIn K aBadLevels = true)
    (ex_BadLevels : PySem.W.excIn K aBadLevels [.type "ValueError", .type "Exception", .type "BaseException", .type "object"] "ValueError.__new__" = true)
    (eb_BadLevels : PySem.W.subIn K (.ref aBadLevels) (.type "BaseException") = some true)
    (ei_BadLevels : PySem.W.isClsIn K aBadLevels = true)
    (ea_NoCells : PySem.W.nsIn K mainGlobals "NoCells" = some (some (.ref aNoCells)))
    (ek_NoCells : PySem.W.keepIn K (.ref aNoCells) = true)
    (et_NoCells : PySem.W.typeIn K (.ref aNoCells) = some (.type "type"))
    (ed_NoCells : PySem.W.hasDictIn K aNoCells = true)
    (ex_NoCells : PySem.W.excIn K aNoCells [.type "ValueError", .type "Exception", .type "BaseException", .type "object"] "ValueError.__new__" = true)
    (eb_NoCells : PySem.W.subIn K (.ref aNoCells) (.type "BaseException") = some true)
    (ei_NoCells : PySem.W.isClsIn K aNoCells = true)
    (ea_NotNew : PySem.W.nsIn K mainGlobals "NotNew" = some (some (.ref aNotNew)))
    (ek_NotNew : PySem.W.keepIn K (.ref aNotNew) = true)
    (et_NotNew : PySem.W.typeIn K (.ref aNotNew) = some (.type "type"))
    (ed_NotNew : PySem.W.hasDictIn K aNotNew = true)
    (ex_NotNew : PySem.W.excIn K aNotNew [.type "ValueError", .type "Exception", .type "BaseException", .type "object"] "ValueError.__new__" = true)
    (eb_NotNew : PySem.W.subIn K (.ref aNotNew) (.type "BaseException") = some true)
    (ei_NotNew : PySem.W.isClsIn K aNotNew = true)
    (ea_TooGreat : PySem.W.nsIn K mainGlobals "TooGreat" = some (some (.ref aTooGreat)))
    (ek_TooGreat : PySem.W.keepIn K (.ref aTooGreat) = true)
    (et_TooGreat : PySem.W.typeIn K (.ref aTooGreat) = some (.type "type"))
    (ed_TooGreat : PySem.W.hasDictIn K aTooGreat = true)
    (ex_TooGreat : PySem.W.excIn K aTooGreat [.type "ValueError", .type "Exception", .type "BaseException", .type "object"] "ValueError.__new__" = true)
    (eb_TooGreat : PySem.W.subIn K (.ref aTooGreat) (.type "BaseException") = some true)
    (ei_TooGreat : PySem.W.isClsIn K aTooGreat = true)
    (ea_BadEffort : PySem.W.nsIn K mainGlobals "BadEffort" = some (some (.ref aBadEffort)))
    (ek_BadEffort : PySem.W.keepIn K (.ref aBadEffort) = true)
    (et_BadEffort : PySem.W.typeIn K (.ref aBadEffort) = some (.type "type"))
    (ed_BadEffort : PySem.W.hasDictIn K aBadEffort = true)
    (ex_BadEffort : PySem.W.excIn K aBadEffort [.type "ValueError", .type "Exception", .type "BaseException", .type "object"] "ValueError.__new__" = true)
    (eb_BadEffort : PySem.W.subIn K (.ref aBadEffort) (.type "BaseException") = some true)
    (ei_BadEffort : PySem.W.isClsIn K aBadEffort = true)
    (ea_BadImage : PySem.W.nsIn K mainGlobals "BadImage" = some (some (.ref aBadImage)))
    (ek_BadImage : PySem.W.keepIn K (.ref aBadImage) = true)
    (et_BadImage : PySem.W.typeIn K (.ref aBadImage) = some (.type "type"))
    (ed_BadImage : PySem.W.hasDictIn K aBadImage = true)
    (ex_BadImage : PySem.W.excIn K aBadImage [.type "ValueError", .type "Exception", .type "BaseException", .type "object"] "ValueError.__new__" = true)
    (eb_BadImage : PySem.W.subIn K (.ref aBadImage) (.type "BaseException") = some true)
    (ei_BadImage : PySem.W.isClsIn K aBadImage = true)
    (ea_Unfit : PySem.W.nsIn K mainGlobals "Unfit" = some (some (.ref aUnfit)))
    (ek_Unfit : PySem.W.keepIn K (.ref aUnfit) = true)
    (et_Unfit : PySem.W.typeIn K (.ref aUnfit) = some (.type "type"))
    (ed_Unfit : PySem.W.hasDictIn K aUnfit = true)
    (ex_Unfit : PySem.W.excIn K aUnfit [.type "ValueError", .type "Exception", .type "BaseException", .type "object"] "ValueError.__new__" = true)
    (eb_Unfit : PySem.W.subIn K (.ref aUnfit) (.type "BaseException") = some true)
    (ei_Unfit : PySem.W.isClsIn K aUnfit = true)
    (ea_BadText : PySem.W.nsIn K mainGlobals "BadText" = some (some (.ref aBadText)))
    (ek_BadText : PySem.W.keepIn K (.ref aBadText) = true)
    (et_BadText : PySem.W.typeIn K (.ref aBadText) = some (.type "type"))
    (ed_BadText : PySem.W.hasDictIn K aBadText = true)
    (ea_NotChecked : PySem.W.nsIn K mainGlobals "NotChecked" = some (some (.ref aNotChecked)))
    (ek_NotChecked : PySem.W.keepIn K (.ref aNotChecked) = true)
    (et_NotChecked : PySem.W.typeIn K (.ref aNotChecked) = some (.type "type"))
    (ed_NotChecked : PySem.W.hasDictIn K aNotChecked = true)
    (ea_NotRight : PySem.W.nsIn K mainGlobals "NotRight" = some (some (.ref aNotRight)))
    (ek_NotRight : PySem.W.keepIn K (.ref aNotRight) = true)
    (et_NotRight : PySem.W.typeIn K (.ref aNotRight) = some (.type "type"))
    (ed_NotRight : PySem.W.hasDictIn K aNotRight = true)
    (ea_NotLet : PySem.W.nsIn K mainGlobals "NotLet" = some (some (.ref aNotLet)))
    (ek_NotLet : PySem.W.keepIn K (.ref aNotLet) = true)
    (et_NotLet : PySem.W.typeIn K (.ref aNotLet) = some (.type "type"))
    (ed_NotLet : PySem.W.hasDictIn K aNotLet = true)
    (ea_BadListing : PySem.W.nsIn K mainGlobals "BadListing" = some (some (.ref aBadListing)))
    (ek_BadListing : PySem.W.keepIn K (.ref aBadListing) = true)
    (et_BadListing : PySem.W.typeIn K (.ref aBadListing) = some (.type "type"))
    (ed_BadListing : PySem.W.hasDictIn K aBadListing = true)
    (ea_Refused : PySem.W.nsIn K mainGlobals "Refused" = some (some (.ref aRefused)))
    (ek_Refused : PySem.W.keepIn K (.ref aRefused) = true)
    (et_Refused : PySem.W.typeIn K (.ref aRefused) = some (.type "type"))
    (ed_Refused : PySem.W.hasDictIn K aRefused = true)
    (xa_xBadText : PySem.W.findIn K (.ref aBadText) "__init__" = some (some (.ref f_xBadText)))
    (xi_xBadText : PySem.W.isFn K (.ref f_xBadText) = true)
    (xl_xBadText : K.lookup f_xBadText = some ⟨oc_xBadText, od_xBadText, .func (PySem.W.ksFn "__init__" "BadText.__init__" (defArgs (inClass (topS 36) 0)) (defBody (inClass (topS 36) 0)) (defScope (inClass (topS 36) 0)) .none kV_xBadText dc_xBadText pm_xBadText an_xBadText (.ref cda_xBadText) ct_xBadText cc_xBadText), sl_xBadText⟩)
    (xc_xBadText : PySem.W.codeIn K (.ref cda_xBadText) "BadText.__init__" = true)
    (xd_xBadText : K.lookup cda_xBadText = some ⟨ccl_xBadText, cdd_xBadText, .fields vs_xBadText, ccs_xBadText⟩)
    (xv_xBadText : vs_xBadText[2]? = some (.str file_xBadText tf_xBadText))
    (xw_xBadText : ((l.prog.main.file : Str) == file_xBadText) = true)
    (xx_xBadText : K.lookup cc_xBadText = some ⟨cl_xBadText, cld_xBadText, .cell (some (.ref aBadText)), csl_xBadText⟩)
    (xq_xBadText : PySem.W.excInitIn K aBadText [.type "ValueError", .type "Exception", .type "BaseException", .type "object"] "ValueError.__new__" = true)
    (xo_xBadText : K.lookup aBadText = some oC_xBadText)
    (xp_xBadText : oC_xBadText.cls = .type "type" ∧ oC_xBadText.data = .cls cdC_xBadText)
    (xr_xBadText : PySem.W.mroIn K aBadText (.ref aBadText) = some true)
    (xs_xBadText : PySem.W.subIn K (.ref aBadText) (.type "ValueError") = some true)
    (xt_xBadText : PySem.W.nsIn K PySem.cStatics "thirdparty.any" = some none)
    (xu_xBadText : PySem.W.ks_superIn K aBadText aBadText "__init__" = some (some (.builtin "ValueError.__init__")))
    (xy_xBadText : PySem.W.findIn K (.ref aBadText) "__setattr__" = some (some (.builtin "object.__setattr__")))
    (xz_xBadText_place : PySem.W.findIn K (.ref aBadText) "place" = some none)
    (xA_xBadText : PySem.W.nsIn K mainGlobals "super" = some none)
    (xB_xBadText : (l.prog.main.scope.names.lookup ("super" : Str)).isSome = false)
    (xC_xBadText : PySem.HandSPX.refsVE cdC_xBadText.mro = true)
    (xD_xBadText : cdC_xBadText.hasDict = true)
    (xa_xNotChecked : PySem.W.findIn K (.ref aNotChecked) "__init__" = some (some (.ref f_xNotChecked)))
    (xi_xNotChecked : PySem.W.isFn K (.ref f_xNotChecked) = true)
    (xl_xNotChecked : K.lookup f_xNotChecked = some ⟨oc_xNotChecked, od_xNotChecked, .func (PySem.W.ksFn "__init__" "NotChecked.__init__" (defArgs (inClass (topS 37) 0)) (defBody (inClass (topS 37) 0)) (defScope (inClass (topS 37) 0)) .none kV_xNotChecked dc_xNotChecked pm_xNotChecked an_xNotChecked (.ref cda_xNotChecked) ct_xNotChecked cc_xNotChecked), sl_xNotChecked⟩)
    (xc_xNotChecked : PySem.W.codeIn K (.ref cda_xNotChecked) "NotChecked.__init__" = true)
    (xd_xNotChecked : K.lookup cda_xNotChecked = some ⟨ccl_xNotChecked, cdd_xNotChecked, .fields vs_xNotChecked, ccs_xNotChecked⟩)
    (xv_xNotChecked : vs_xNotChecked[2]? = some (.str file_xNotChecked tf_xNotChecked))
    (xw_xNotChecked : ((l.prog.main.file : Str) == file_xNotChecked) = true)
    (xx_xNotChecked : K.lookup cc_xNotChecked = some ⟨cl_xNotChecked, cld_xNotChecked, .cell (some (.ref aNotChecked)), csl_xNotChecked⟩)
    (xq_xNotChecked : PySem.W.excInitIn K aNotChecked [.type "ValueError", .type "Exception", .type "BaseException", .type "object"] "ValueError.__new__" = true)
    (xo_xNotChecked : K.lookup aNotChecked = some oC_xNotChecked)
    (xp_xNotChecked : oC_xNotChecked.cls = .type "type" ∧ oC_xNotChecked.data = .cls cdC_xNotChecked)
    (xr_xNotChecked : PySem.W.mroIn K aNotChecked (.ref aNotChecked) = some true)
    (xs_xNotChecked : PySem.W.subIn K (.ref aNotChecked) (.type "ValueError") = some true)
    (xt_xNotChecked : PySem.W.nsIn K PySem.cStatics "thirdparty.any" = some none)
    (xu_xNotChecked : PySem.W.ks_superIn K aNotChecked aNotChecked "__init__" = some (some (.builtin "ValueError.__init__")))
    (xy_xNotChecked : PySem.W.findIn K (.ref aNotChecked) "__setattr__" = some (some (.builtin "object.__setattr__")))
    (xz_xNotChecked_what : PySem.W.findIn K (.ref aNotChecked) "what" = some none)
    (xA_xNotChecked : PySem.W.nsIn K mainGlobals "super" = some none)
    (xB_xNotChecked : (l.prog.main.scope.names.lookup ("super" : Str)).isSome = false)
    (xC_xNotChecked : PySem.HandSPX.refsVE cdC_xNotChecked.mro = true)
    (xD_xNotChecked : cdC_xNotChecked.hasDict = true)
    (xa_xNotRight : PySem.W.findIn K (.ref aNotRight) "__init__" = some (some (.ref f_xNotRight)))
    (xi_xNotRight : PySem.W.isFn K (.ref f_xNotRight) = true)
    (xl_xNotRight : K.lookup f_xNotRight = some ⟨oc_xNotRight, od_xNotRight, .func (PySem.W.ksFn "__init__" "NotRight.__init__" (defArgs (inClass (topS 38) 0)) (defBody (inClass (topS 38) 0)) (defScope (inClass (topS 38) 0)) .none kV_xNotRight dc_xNotRight pm_xNotRight an_xNotRight (.ref cda_xNotRight) ct_xNotRight cc_xNotRight), sl_xNotRight⟩)
    (xc_xNotRight : PySem.W.codeIn K (.ref cda_xNotRight) "NotRight.__init__" = true)
    (xd_xNotRight : K.lookup cda_xNotRight = some ⟨ccl_xNotRight, cdd_xNotRight, .fields vs_xNotRight, ccs_xNotRight⟩)
    (xv_xNotRight : vs_xNotRight[2]? = some (.str file_xNotRight tf_xNotRight))
    (xw_xNotRight : ((l.prog.main.file : Str) == file_xNotRight) = true)
    (xx_xNotRight : K.lookup cc_xNotRight = some ⟨cl_xNotRight, cld_xNotRight, .cell (some (.ref aNotRight)), csl_xNotRight⟩)
    (xq_xNotRight : PySem.W.excInitIn K aNotRight [.type "ValueError", .type "Exception", .type "BaseException", .type "object"] "ValueError.__new__" = true)
    (xo_xNotRight : K.lookup aNotRight = some oC_xNotRight)
    (xp_xNotRight : oC_xNotRight.cls = .type "type" ∧ oC_xNotRight.data = .cls cdC_xNotRight)
    (xr_xNotRight : PySem.W.mroIn K aNotRight (.ref aNotRight) = some true)
    (xs_xNotRight : PySem.W.subIn K (.ref aNotRight) (.type "ValueError") = some true)
    (xt_xNotRight : PySem.W.nsIn K PySem.cStatics "thirdparty.any" = some none)
    (xu_xNotRight : PySem.W.ks_superIn K aNotRight aNotRight "__init__" = some (some (.builtin "ValueError.__init__")))
    (xy_xNotRight : PySem.W.findIn K (.ref aNotRight) "__setattr__" = some (some (.builtin "object.__setattr__")))
    (xz_xNotRight_what : PySem.W.findIn K (.ref aNotRight) "what" = some none)
    (xA_xNotRight : PySem.W.nsIn K mainGlobals "super" = some none)
    (xB_xNotRight : (l.prog.main.scope.names.lookup ("super" : Str)).isSome = false)
    (xC_xNotRight : PySem.HandSPX.refsVE cdC_xNotRight.mro = true)
    (xD_xNotRight : cdC_xNotRight.hasDict = true)
    (xa_xNotLet : PySem.W.findIn K (.ref aNotLet) "__init__" = some (some (.ref f_xNotLet)))
    (xi_xNotLet : PySem.W.isFn K (.ref f_xNotLet) = true)
    (xl_xNotLet : K.lookup f_xNotLet = some ⟨oc_xNotLet, od_xNotLet, .func (PySem.W.ksFn "__init__" "NotLet.__init__" (defArgs (inClass (topS 39) 0)) (defBody (inClass (topS 39) 0)) (defScope (inClass (topS 39) 0)) .none kV_xNotLet dc_xNotLet pm_xNotLet an_xNotLet (.ref cda_xNotLet) ct_xNotLet cc_xNotLet), sl_xNotLet⟩)
    (xc_xNotLet : PySem.W.codeIn K (.ref cda_xNotLet) "NotLet.__init__" = true)
    (xd_xNotLet : K.lookup cda_xNotLet = some ⟨ccl_xNotLet, cdd_xNotLet, .fields vs_xNotLet, ccs_xNotLet⟩)
    (xv_xNotLet : vs_xNotLet[2]? = some (.str file_xNotLet tf_xNotLet))
    (xw_xNotLet : ((l.prog.main.file : Str) == file_xNotLet) = true)
    (xx_xNotLet : K.lookup cc_xNotLet = some ⟨cl_xNotLet, cld_xNotLet, .cell (some (.ref aNotLet)), csl_xNotLet⟩)
    (xq_xNotLet : PySem.W.excInitIn K aNotLet [.type "ValueError", .type "Exception", .type "BaseException", .type "object"] "ValueError.__new__" = true)
    (xo_xNotLet : K.lookup aNotLet = some oC_xNotLet)
    (xp_xNotLet : oC_xNotLet.cls = .type "type" ∧ oC_xNotLet.data = .cls cdC_xNotLet)
    (xr_xNotLet : PySem.W.mroIn K aNotLet (.ref aNotLet) = some true)
    (xs_xNotLet : PySem.W.subIn K (.ref aNotLet) (.type "ValueError") = some true)
    (xt_xNotLet : PySem.W.nsIn K PySem.cStatics "thirdparty.any" = some none)
    (xu_xNotLet : PySem.W.ks_superIn K aNotLet aNotLet "__init__" = some (some (.builtin "ValueError.__init__")))
    (xy_xNotLet : PySem.W.findIn K (.ref aNotLet) "__setattr__" = some (some (.builtin "object.__setattr__")))
    (xz_xNotLet_index : PySem.W.findIn K (.ref aNotLet) "index" = some none)
    (xA_xNotLet : PySem.W.nsIn K mainGlobals "super" = some none)
    (xB_xNotLet : (l.prog.main.scope.names.lookup ("super" : Str)).isSome = false)
    (xC_xNotLet : PySem.HandSPX.refsVE cdC_xNotLet.mro = true)
    (xD_xNotLet : cdC_xNotLet.hasDict = true)
    (xa_xBadListing : PySem.W.findIn K (.ref aBadListing) "__init__" = some (some (.ref f_xBadListing)))
    (xi_xBadListing : PySem.W.isFn K (.ref f_xBadListing) = true)
    (xl_xBadListing : K.lookup f_xBadListing = some ⟨oc_xBadListing, od_xBadListing, .func (PySem.W.ksFn "__init__" "BadListing.__init__" (defArgs (inClass (topS 40) 0)) (defBody (inClass (topS 40) 0)) (defScope (inClass (topS 40) 0)) .none kV_xBadListing dc_xBadListing pm_xBadListing an_xBadListing (.ref cda_xBadListing) ct_xBadListing cc_xBadListing), sl_xBadListing⟩)
    (xc_xBadListing : PySem.W.codeIn K (.ref cda_xBadListing) "BadListing.__init__" = true)
    (xd_xBadListing : K.lookup cda_xBadListing = some ⟨ccl_xBadListing, cdd_xBadListing, .fields vs_xBadListing, ccs_xBadListing⟩)
    (xv_xBadListing : vs_xBadListing[2]? = some (.str file_xBadListing tf_xBadListing))
    (xw_xBadListing : ((l.prog.main.file : Str) == file_xBadListing) = true)
    (xx_xBadListing : K.lookup cc_xBadListing = some ⟨cl_xBadListing, cld_xBadListing, .cell (some (.ref aBadListing)), csl_xBadListing⟩)
    (xq_xBadListing : PySem.W.excInitIn K aBadListing [.type "ValueError", .type "Exception", .type "BaseException", .type "object"] "ValueError.__new__" = true)
    (xo_xBadListing : K.lookup aBadListing = some oC_xBadListing)
    (xp_xBadListing : oC_xBadListing.cls = .type "type" ∧ oC_xBadListing.data = .cls cdC_xBadListing)
    (xr_xBadListing : PySem.W.mroIn K aBadListing (.ref aBadListing) = some true)
    (xs_xBadListing : PySem.W.subIn K (.ref aBadListing) (.type "ValueError") = some true)
    (xt_xBadListing : PySem.W.nsIn K PySem.cStatics "thirdparty.any" = some none)
    (xu_xBadListing : PySem.W.ks_superIn K aBadListing aBadListing "__init__" = some (some (.builtin "ValueError.__init__")))
    (xy_xBadListing : PySem.W.findIn K (.ref aBadListing) "__setattr__" = some (some (.builtin "object.__setattr__")))
    (xz_xBadListing_line : PySem.W.findIn K (.ref aBadListing) "line" = some none)
    (xA_xBadListing : PySem.W.nsIn K mainGlobals "super" = some none)
    (xB_xBadListing : (l.prog.main.scope.names.lookup ("super" : Str)).isSome = false)
    (xC_xBadListing : PySem.HandSPX.refsVE cdC_xBadListing.mro = true)
    (xD_xBadListing : cdC_xBadListing.hasDict = true)
    (xa_xRefused : PySem.W.findIn K (.ref aRefused) "__init__" = some (some (.ref f_xRefused)))
    (xi_xRefused : PySem.W.isFn K (.ref f_xRefused) = true)
    (xl_xRefused : K.lookup f_xRefused = some ⟨oc_xRefused, od_xRefused, .func (PySem.W.ksFn "__init__" "Refused.__init__" (defArgs (inClass (topS 41) 0)) (defBody (inClass (topS 41) 0)) (defScope (inClass (topS 41) 0)) .none kV_xRefused dc_xRefused pm_xRefused an_xRefused (.ref cda_xRefused) ct_xRefused cc_xRefused), sl_xRefused⟩)
    (xc_xRefused : PySem.W.codeIn K (.ref cda_xRefused) "Refused.__init__" = true)
    (xd_xRefused : K.lookup cda_xRefused = some ⟨ccl_xRefused, cdd_xRefused, .fields vs_xRefused, ccs_xRefused⟩)
    (xv_xRefused : vs_xRefused[2]? = some (.str file_xRefused tf_xRefused))
    (xw_xRefused : ((l.prog.main.file : Str) == file_xRefused) = true)
    (xx_xRefused : K.lookup cc_xRefused = some ⟨cl_xRefused, cld_xRefused, .cell (some (.ref aRefused)), csl_xRefused⟩)
    (xq_xRefused : PySem.W.excInitIn K aRefused [.type "ValueError", .type "Exception", .type "BaseException", .type "object"] "ValueError.__new__" = true)
    (xo_xRefused : K.lookup aRefused = some oC_xRefused)
    (xp_xRefused : oC_xRefused.cls = .type "type" ∧ oC_xRefused.data = .cls cdC_xRefused)
    (xr_xRefused : PySem.W.mroIn K aRefused (.ref aRefused) = some true)
    (xs_xRefused : PySem.W.subIn K (.ref aRefused) (.type "ValueError") = some true)
    (xt_xRefused : PySem.W.nsIn K PySem.cStatics "thirdparty.any" = some none)
    (xu_xRefused : PySem.W.ks_superIn K aRefused aRefused "__init__" = some (some (.builtin "ValueError.__init__")))
    (xy_xRefused : PySem.W.findIn K (.ref aRefused) "__setattr__" = some (some (.builtin "object.__setattr__")))
    (xz_xRefused_name : PySem.W.findIn K (.ref aRefused) "name" = some none)
    (xz_xRefused_row : PySem.W.findIn K (.ref aRefused) "row" = some none)
    (xz_xRefused_address : PySem.W.findIn K (.ref aRefused) "address" = some none)
    (xA_xRefused : PySem.W.nsIn K mainGlobals "super" = some none)
    (xB_xRefused : (l.prog.main.scope.names.lookup ("super" : Str)).isSome = false)
    (xC_xRefused : PySem.HandSPX.refsVE cdC_xRefused.mro = true)
    (xD_xRefused : cdC_xRefused.hasDict = true)
    (sT_BadText : (xvt aPaidError aBadProgram aBadCore aBadName aBadRow aBadKind aBadArgs aBadLimit aBadLog aBadVariable aBadPlacing aBadSteps aBadMeasures aBadNumber aBadBook aBadIndex aBadNever aBadGoal aBadHints aBadShowings aBadNeeds aBadRatio aZeroBottom aBadSystem aBadLine aBadTemplate aBadPoint aBadAmounts aBadLevels aNoCells aNotNew aTooGreat aBadEffort aBadImage aUnfit aBadText aNotChecked aNotRight aNotLet aBadListing aRefused).all (fun p => decide (PySem.W.subIn K (.ref p.2) (.ref aBadText) = some (decide (("BadText" : Str) ∈ (xva.lookup p.1).getD [])))) = true)
    (sT_NotChecked : (xvt aPaidError aBadProgram aBadCore aBadName aBadRow aBadKind aBadArgs aBadLimit aBadLog aBadVariable aBadPlacing aBadSteps aBadMeasures aBadNumber aBadBook aBadIndex aBadNever aBadGoal aBadHints aBadShowings aBadNeeds aBadRatio aZeroBottom aBadSystem aBadLine aBadTemplate aBadPoint aBadAmounts aBadLevels aNoCells aNotNew aTooGreat aBadEffort aBadImage aUnfit aBadText aNotChecked aNotRight aNotLet aBadListing aRefused).all (fun p => decide (PySem.W.subIn K (.ref p.2) (.ref aNotChecked) = some (decide (("NotChecked" : Str) ∈ (xva.lookup p.1).getD [])))) = true)
    (sT_NotRight : (xvt aPaidError aBadProgram aBadCore aBadName aBadRow aBadKind aBadArgs aBadLimit aBadLog aBadVariable aBadPlacing aBadSteps aBadMeasures aBadNumber aBadBook aBadIndex aBadNever aBadGoal aBadHints aBadShowings aBadNeeds aBadRatio aZeroBottom aBadSystem aBadLine aBadTemplate aBadPoint aBadAmounts aBadLevels aNoCells aNotNew aTooGreat aBadEffort aBadImage aUnfit aBadText aNotChecked aNotRight aNotLet aBadListing aRefused).all (fun p => decide (PySem.W.subIn K (.ref p.2) (.ref aNotRight) = some (decide (("NotRight" : Str) ∈ (xva.lookup p.1).getD [])))) = true)
    (sT_NotLet : (xvt aPaidError aBadProgram aBadCore aBadName aBadRow aBadKind aBadArgs aBadLimit aBadLog aBadVariable aBadPlacing aBadSteps aBadMeasures aBadNumber aBadBook aBadIndex aBadNever aBadGoal aBadHints aBadShowings aBadNeeds aBadRatio aZeroBottom aBadSystem aBadLine aBadTemplate aBadPoint aBadAmounts aBadLevels aNoCells aNotNew aTooGreat aBadEffort aBadImage aUnfit aBadText aNotChecked aNotRight aNotLet aBadListing aRefused).all (fun p => decide (PySem.W.subIn K (.ref p.2) (.ref aNotLet) = some (decide (("NotLet" : Str) ∈ (xva.lookup p.1).getD [])))) = true)
    (sT_BadListing : (xvt aPaidError aBadProgram aBadCore aBadName aBadRow aBadKind aBadArgs aBadLimit aBadLog aBadVariable aBadPlacing aBadSteps aBadMeasures aBadNumber aBadBook aBadIndex aBadNever aBadGoal aBadHints aBadShowings aBadNeeds aBadRatio aZeroBottom aBadSystem aBadLine aBadTemplate aBadPoint aBadAmounts aBadLevels aNoCells aNotNew aTooGreat aBadEffort aBadImage aUnfit aBadText aNotChecked aNotRight aNotLet aBadListing aRefused).all (fun p => decide (PySem.W.subIn K (.ref p.2) (.ref aBadListing) = some (decide (("BadListing" : Str) ∈ (xva.lookup p.1).getD [])))) = true)
    (sT_Refused : (xvt aPaidError aBadProgram aBadCore aBadName aBadRow aBadKind aBadArgs aBadLimit aBadLog aBadVariable aBadPlacing aBadSteps aBadMeasures aBadNumber aBadBook aBadIndex aBadNever aBadGoal aBadHints aBadShowings aBadNeeds aBadRatio aZeroBottom aBadSystem aBadLine aBadTemplate aBadPoint aBadAmounts aBadLevels aNoCells aNotNew aTooGreat aBadEffort aBadImage aUnfit aBadText aNotChecked aNotRight aNotLet aBadListing aRefused).all (fun p => decide (PySem.W.subIn K (.ref p.2) (.ref aRefused) = some (decide (("Refused" : Str) ∈ (xva.lookup p.1).getD [])))) = true)
    (sT_BadAmounts : (xvt aPaidError aBadProgram aBadCore aBadName aBadRow aBadKind aBadArgs aBadLimit aBadLog aBadVariable aBadPlacing aBadSteps aBadMeasures aBadNumber aBadBook aBadIndex aBadNever aBadGoal aBadHints aBadShowings aBadNeeds aBadRatio aZeroBottom aBadSystem aBadLine aBadTemplate aBadPoint aBadAmounts aBadLevels aNoCells aNotNew aTooGreat aBadEffort aBadImage aUnfit aBadText aNotChecked aNotRight aNotLet aBadListing aRefused).all (fun p => decide (PySem.W.subIn K (.ref p.2) (.ref aBadAmounts) = some (decide (("BadAmounts" : Str) ∈ (xva.lookup p.1).getD [])))) = true)
    (sT_BadArgs : (xvt aPaidError aBadProgram aBadCore aBadName aBadRow aBadKind aBadArgs aBadLimit aBadLog aBadVariable aBadPlacing aBadSteps aBadMeasures aBadNumber aBadBook aBadIndex aBadNever aBadGoal aBadHints aBadShowings aBadNeeds aBadRatio aZeroBottom aBadSystem aBadLine aBadTemplate aBadPoint aBadAmounts aBadLevels aNoCells aNotNew aTooGreat aBadEffort aBadImage aUnfit aBadText aNotChecked aNotRight aNotLet aBadListing aRefused).all (fun p => decide (PySem.W.subIn K (.ref p.2) (.ref aBadArgs) = some (decide (("BadArgs" : Str) ∈ (xva.lookup p.1).getD [])))) = true)
    (sT_BadBook : (xvt aPaidError aBadProgram aBadCore aBadName aBadRow aBadKind aBadArgs aBadLimit aBadLog aBadVariable aBadPlacing aBadSteps aBadMeasures aBadNumber aBadBook aBadIndex aBadNever aBadGoal aBadHints aBadShowings aBadNeeds aBadRatio aZeroBottom aBadSystem aBadLine aBadTemplate aBadPoint aBadAmounts aBadLevels aNoCells aNotNew aTooGreat aBadEffort aBadImage aUnfit aBadText aNotChecked aNotRight aNotLet aBadListing aRefused).all (fun p => decide (PySem.W.subIn K (.ref p.2) (.ref aBadBook) = some (decide (("BadBook" : Str) ∈ (xva.lookup p.1).getD [])))) = true)
    (sT_BadCore : (xvt aPaidError aBadProgram aBadCore aBadName aBadRow aBadKind aBadArgs aBadLimit aBadLog aBadVariable aBadPlacing aBadSteps aBadMeasures aBadNumber aBadBook aBadIndex aBadNever aBadGoal aBadHints aBadShowings aBadNeeds aBadRatio aZeroBottom aBadSystem aBadLine aBadTemplate aBadPoint aBadAmounts aBadLevels aNoCells aNotNew aTooGreat aBadEffort aBadImage aUnfit aBadText aNotChecked aNotRight aNotLet aBadListing aRefused).all (fun p => decide (PySem.W.subIn K (.ref p.2) (.ref aBadCore) = some (decide (("BadCore" : Str) ∈ (xva.lookup p.1).getD [])))) = true)
    (sT_BadEffort : (xvt aPaidError aBadProgram aBadCore aBadName aBadRow aBadKind aBadArgs aBadLimit aBadLog aBadVariable aBadPlacing aBadSteps aBadMeasures aBadNumber aBadBook aBadIndex aBadNever aBadGoal aBadHints aBadShowings aBadNeeds aBadRatio aZeroBottom aBadSystem aBadLine aBadTemplate aBadPoint aBadAmounts aBadLevels aNoCells aNotNew aTooGreat aBadEffort aBadImage aUnfit aBadText aNotChecked aNotRight aNotLet aBadListing aRefused).all (fun p => decide (PySem.W.subIn K (.ref p.2) (.ref aBadEffort) = some (decide (("BadEffort" : Str) ∈ (xva.lookup p.1).getD [])))) = true)
    (sT_BadGoal : (xvt aPaidError aBadProgram aBadCore aBadName aBadRow aBadKind aBadArgs aBadLimit aBadLog aBadVariable aBadPlacing aBadSteps aBadMeasures aBadNumber aBadBook aBadIndex aBadNever aBadGoal aBadHints aBadShowings aBadNeeds aBadRatio aZeroBottom aBadSystem aBadLine aBadTemplate aBadPoint aBadAmounts aBadLevels aNoCells aNotNew aTooGreat aBadEffort aBadImage aUnfit aBadText aNotChecked aNotRight aNotLet aBadListing aRefused).all (fun p => decide (PySem.W.subIn K (.ref p.2) (.ref aBadGoal) = some (decide (("BadGoal" : Str) ∈ (xva.lookup p.1).getD [])))) = true)
    (sT_BadHints : (xvt aPaidError aBadProgram aBadCore aBadName aBadRow aBadKind aBadArgs aBadLimit aBadLog aBadVariable aBadPlacing aBadSteps aBadMeasures aBadNumber aBadBook aBadIndex aBadNever aBadGoal aBadHints aBadShowings aBadNeeds aBadRatio aZeroBottom aBadSystem aBadLine aBadTemplate aBadPoint aBadAmounts aBadLevels aNoCells aNotNew aTooGreat aBadEffort aBadImage aUnfit aBadText aNotChecked aNotRight aNotLet aBadListing aRefused).all (fun p => decide (PySem.W.subIn K (.ref p.2) (.ref aBadHints) = some (decide (("BadHints" : Str) ∈ (xva.lookup p.1).getD [])))) = true)
    (sT_BadImage : (xvt aPaidError aBadProgram aBadCore aBadName aBadRow aBadKind aBadArgs aBadLimit aBadLog aBadVariable aBadPlacing aBadSteps aBadMeasures aBadNumber aBadBook aBadIndex aBadNever aBadGoal aBadHints aBadShowings aBadNeeds aBadRatio aZeroBottom aBadSystem aBadLine aBadTemplate aBadPoint aBadAmounts aBadLevels aNoCells aNotNew aTooGreat aBadEffort aBadImage aUnfit aBadText aNotChecked aNotRight aNotLet aBadListing aRefused).all (fun p => decide (PySem.W.subIn K (.ref p.2) (.ref aBadImage) = some (decide (("BadImage" : Str) ∈ (xva.lookup p.1).getD [])))) = true)
    (sT_BadIndex : (xvt aPaidError aBadProgram aBadCore aBadName aBadRow aBadKind aBadArgs aBadLimit aBadLog aBadVariable aBadPlacing aBadSteps aBadMeasures aBadNumber aBadBook aBadIndex aBadNever aBadGoal aBadHints aBadShowings aBadNeeds aBadRatio aZeroBottom aBadSystem aBadLine aBadTemplate aBadPoint aBadAmounts aBadLevels aNoCells aNotNew aTooGreat aBadEffort aBadImage aUnfit aBadText aNotChecked aNotRight aNotLet aBadListing aRefused).all (fun p => decide (PySem.W.subIn K (.ref p.2) (.ref aBadIndex) = some (decide (("BadIndex" : Str) ∈ (xva.lookup p.1).getD [])))) = true)
    (sT_BadKind : (xvt aPaidError aBadProgram aBadCore aBadName aBadRow aBadKind aBadArgs aBadLimit aBadLog aBadVariable aBadPlacing aBadSteps aBadMeasures aBadNumber aBadBook aBadIndex aBadNever aBadGoal aBadHints aBadShowings aBadNeeds aBadRatio aZeroBottom aBadSystem aBadLine aBadTemplate aBadPoint aBadAmounts aBadLevels aNoCells aNotNew aTooGreat aBadEffort aBadImage aUnfit aBadText aNotChecked aNotRight aNotLet aBadListing aRefused).all (fun p => decide (PySem.W.subIn K (.ref p.2) (.ref aBadKind) = some (decide (("BadKind" : Str) ∈ (xva.lookup p.1).getD [])))) = true)
    (sT_BadLevels : (xvt aPaidError aBadProgram aBadCore aBadName aBadRow aBadKind aBadArgs aBadLimit aBadLog aBadVariable aBadPlacing aBadSteps aBadMeasures aBadNumber aBadBook aBadIndex aBadNever aBadGoal aBadHints aBadShowings aBadNeeds aBadRatio aZeroBottom aBadSystem aBadLine aBadTemplate aBadPoint aBadAmounts aBadLevels aNoCells aNotNew aTooGreat aBadEffort aBadImage aUnfit aBadText aNotChecked aNotRight aNotLet aBadListing aRefused).all (fun p => decide (PySem.W.subIn K (.ref p.2) (.ref aBadLevels) = some (decide (("BadLevels" : Str) ∈ (xva.lookup p.1).getD [])))) = true)
    (sT_BadLimit : (xvt aPaidError aBadProgram aBadCore aBadName aBadRow aBadKind aBadArgs aBadLimit aBadLog aBadVariable aBadPlacing aBadSteps aBadMeasures aBadNumber aBadBook aBadIndex aBadNever aBadGoal aBadHints aBadShowings aBadNeeds aBadRatio aZeroBottom aBadSystem aBadLine aBadTemplate aBadPoint aBadAmounts aBadLevels aNoCells aNotNew aTooGreat aBadEffort aBadImage aUnfit aBadText aNotChecked aNotRight aNotLet aBadListing aRefused).all (fun p => decide (PySem.W.subIn K (.ref p.2) (.ref aBadLimit) = some (decide (("BadLimit" : Str) ∈ (xva.lookup p.1).getD [])))) = true)
    (sT_BadLine : (xvt aPaidError aBadProgram aBadCore aBadName aBadRow aBadKind aBadArgs aBadLimit aBadLog aBadVariable aBadPlacing aBadSteps aBadMeasures aBadNumber aBadBook aBadIndex aBadNever aBadGoal aBadHints aBadShowings aBadNeeds aBadRatio aZeroBottom aBadSystem aBadLine aBadTemplate aBadPoint aBadAmounts aBadLevels aNoCells aNotNew aTooGreat aBadEffort aBadImage aUnfit aBadText aNotChecked aNotRight aNotLet aBadListing aRefused).all (fun p => decide (PySem.W.subIn K (.ref p.2) (.ref aBadLine) = some (decide (("BadLine" : Str) ∈ (xva.lookup p.1).getD [])))) = true)
    (sT_BadLog : (xvt aPaidError aBadProgram aBadCore aBadName aBadRow aBadKind aBadArgs aBadLimit aBadLog aBadVariable aBadPlacing aBadSteps aBadMeasures aBadNumber aBadBook aBadIndex aBadNever aBadGoal aBadHints aBadShowings aBadNeeds aBadRatio aZeroBottom aBadSystem aBadLine aBadTemplate aBadPoint aBadAmounts aBadLevels aNoCells aNotNew aTooGreat aBadEffort aBadImage aUnfit aBadText aNotChecked aNotRight aNotLet aBadListing aRefused).all (fun p => decide (PySem.W.subIn K (.ref p.2) (.ref aBadLog) = some (decide (("BadLog" : Str) ∈ (xva.lookup p.1).getD [])))) = true)
    (sT_BadMeasures : (xvt aPaidError aBadProgram aBadCore aBadName aBadRow aBadKind aBadArgs aBadLimit aBadLog aBadVariable aBadPlacing aBadSteps aBadMeasures aBadNumber aBadBook aBadIndex aBadNever aBadGoal aBadHints aBadShowings aBadNeeds aBadRatio aZeroBottom aBadSystem aBadLine aBadTemplate aBadPoint aBadAmounts aBadLevels aNoCells aNotNew aTooGreat aBadEffort aBadImage aUnfit aBadText aNotChecked aNotRight aNotLet aBadListing aRefused).all (fun p => decide (PySem.W.subIn K (.ref p.2) (.ref aBadMeasures) = some (decide (("BadMeasures" : Str) ∈ (xva.lookup p.1).getD [])))) = true)
    (sT_BadName : (xvt aPaidError aBadProgram aBadCore aBadName aBadRow aBadKind aBadArgs aBadLimit aBadLog aBadVariable aBadPlacing aBadSteps aBadMeasures aBadNumber aBadBook aBadIndex aBadNever aBadGoal aBadHints aBadShowings aBadNeeds aBadRatio aZeroBottom aBadSystem aBadLine aBadTemplate aBadPoint aBadAmounts aBadLevels aNoCells aNotNew aTooGreat aBadEffort aBadImage aUnfit aBadText aNotChecked aNotRight aNotLet aBadListing aRefused).all (fun p => decide (PySem.W.subIn K (.ref p.2) (.ref aBadName) = some (decide (("BadName" : Str) ∈ (xva.lookup p.1).getD [])))) = true)
    (sT_BadNeeds : (xvt aPaidError aBadProgram aBadCore aBadName aBadRow aBadKind aBadArgs aBadLimit aBadLog aBadVariable aBadPlacing aBadSteps aBadMeasures aBadNumber aBadBook aBadIndex aBadNever aBadGoal aBadHints aBadShowings aBadNeeds aBadRatio aZeroBottom aBadSystem aBadLine aBadTemplate aBadPoint aBadAmounts aBadLevels aNoCells aNotNew aTooGreat aBadEffort aBadImage aUnfit aBadText aNotChecked aNotRight aNotLet aBadListing aRefused).all (fun p => decide (PySem.W.subIn K (.ref p.2) (.ref aBadNeeds) = some (decide (("BadNeeds" : Str) ∈ (xva.lookup p.1).getD [])))) = true)
    (sT_BadNever : (xvt aPaidError aBadProgram aBadCore aBadName aBadRow aBadKind aBadArgs aBadLimit aBadLog aBadVariable aBadPlacing aBadSteps aBadMeasures aBadNumber aBadBook aBadIndex aBadNever aBadGoal aBadHints aBadShowings aBadNeeds aBadRatio aZeroBottom aBadSystem aBadLine aBadTemplate aBadPoint aBadAmounts aBadLevels aNoCells aNotNew aTooGreat aBadEffort aBadImage aUnfit aBadText aNotChecked aNotRight aNotLet aBadListing aRefused).all (fun p => decide (PySem.W.subIn K (.ref p.2) (.ref aBadNever) = some (decide (("BadNever" : Str) ∈ (xva.lookup p.1).getD [])))) = true)
    (sT_BadNumber : (xvt aPaidError aBadProgram aBadCore aBadName aBadRow aBadKind aBadArgs aBadLimit aBadLog aBadVariable aBadPlacing aBadSteps aBadMeasures aBadNumber aBadBook aBadIndex aBadNever aBadGoal aBadHints aBadShowings aBadNeeds aBadRatio aZeroBottom aBadSystem aBadLine aBadTemplate aBadPoint aBadAmounts aBadLevels aNoCells aNotNew aTooGreat aBadEffort aBadImage aUnfit aBadText aNotChecked aNotRight aNotLet aBadListing aRefused).all (fun p => decide (PySem.W.subIn K (.ref p.2) (.ref aBadNumber) = some (decide (("BadNumber" : Str) ∈ (xva.lookup p.1).getD [])))) = true)
    (sT_BadPlacing : (xvt aPaidError aBadProgram aBadCore aBadName aBadRow aBadKind aBadArgs aBadLimit aBadLog aBadVariable aBadPlacing aBadSteps aBadMeasures aBadNumber aBadBook aBadIndex aBadNever aBadGoal aBadHints aBadShowings aBadNeeds aBadRatio aZeroBottom aBadSystem aBadLine aBadTemplate aBadPoint aBadAmounts aBadLevels aNoCells aNotNew aTooGreat aBadEffort aBadImage aUnfit aBadText aNotChecked aNotRight aNotLet aBadListing aRefused).all (fun p => decide (PySem.W.subIn K (.ref p.2) (.ref aBadPlacing) = some (decide (("BadPlacing" : Str) ∈ (xva.lookup p.1).getD [])))) = true)
    (sT_BadPoint : (xvt aPaidError aBadProgram aBadCore aBadName aBadRow aBadKind aBadArgs aBadLimit aBadLog aBadVariable aBadPlacing aBadSteps aBadMeasures aBadNumber aBadBook aBadIndex aBadNever aBadGoal aBadHints aBadShowings aBadNeeds aBadRatio aZeroBottom aBadSystem aBadLine aBadTemplate aBadPoint aBadAmounts aBadLevels aNoCells aNotNew aTooGreat aBadEffort aBadImage aUnfit aBadText aNotChecked aNotRight aNotLet aBadListing aRefused).all (fun p => decide (PySem.W.subIn K (.ref p.2) (.ref aBadPoint) = some (decide (("BadPoint" : Str) ∈ (xva.lookup p.1).getD [])))) = true)
    (sT_BadProgram : (xvt aPaidError aBadProgram aBadCore aBadName aBadRow aBadKind aBadArgs aBadLimit aBadLog aBadVariable aBadPlacing aBadSteps aBadMeasures aBadNumber aBadBook aBadIndex aBadNever aBadGoal aBadHints aBadShowings aBadNeeds aBadRatio aZeroBottom aBadSystem aBadLine aBadTemplate aBadPoint aBadAmounts aBadLevels aNoCells aNotNew aTooGreat aBadEffort aBadImage aUnfit aBadText aNotChecked aNotRight aNotLet aBadListing aRefused).all (fun p => decide (PySem.W.subIn K (.ref p.2) (.ref aBadProgram) = some (decide (("BadProgram" : Str) ∈ (xva.lookup p.1).getD [])))) = true)
    (sT_BadRatio : (xvt aPaidError aBadProgram aBadCore aBadName aBadRow aBadKind aBadArgs aBadLimit aBadLog aBadVariable aBadPlacing aBadSteps aBadMeasures aBadNumber aBadBook aBadIndex aBadNever aBadGoal aBadHints aBadShowings aBadNeeds aBadRatio aZeroBottom aBadSystem aBadLine aBadTemplate aBadPoint aBadAmounts aBadLevels aNoCells aNotNew aTooGreat aBadEffort aBadImage aUnfit aBadText aNotChecked aNotRight aNotLet aBadListing aRefused).all (fun p => decide (PySem.W.subIn K (.ref p.2) (.ref aBadRatio) = some (decide (("BadRatio" : Str) ∈ (xva.lookup p.1).getD [])))) = true)
    (sT_BadRow : (xvt aPaidError aBadProgram aBadCore aBadName aBadRow aBadKind aBadArgs aBadLimit aBadLog aBadVariable aBadPlacing aBadSteps aBadMeasures aBadNumber aBadBook aBadIndex aBadNever aBadGoal aBadHints aBadShowings aBadNeeds aBadRatio aZeroBottom aBadSystem aBadLine aBadTemplate aBadPoint aBadAmounts aBadLevels aNoCells aNotNew aTooGreat aBadEffort aBadImage aUnfit aBadText aNotChecked aNotRight aNotLet aBadListing aRefused).all (fun p => decide (PySem.W.subIn K (.ref p.2) (.ref aBadRow) = some (decide (("BadRow" : Str) ∈ (xva.lookup p.1).getD [])))) = true)
    (sT_BadShowings : (xvt aPaidError aBadProgram aBadCore aBadName aBadRow aBadKind aBadArgs aBadLimit aBadLog aBadVariable aBadPlacing aBadSteps aBadMeasures aBadNumber aBadBook aBadIndex aBadNever aBadGoal aBadHints aBadShowings aBadNeeds aBadRatio aZeroBottom aBadSystem aBadLine aBadTemplate aBadPoint aBadAmounts aBadLevels aNoCells aNotNew aTooGreat aBadEffort aBadImage aUnfit aBadText aNotChecked aNotRight aNotLet aBadListing aRefused).all (fun p => decide (PySem.W.subIn K (.ref p.2) (.ref aBadShowings) = some (decide (("BadShowings" : Str) ∈ (xva.lookup p.1).getD [])))) = true)
    (sT_BadSteps : (xvt aPaidError aBadProgram aBadCore aBadName aBadRow aBadKind aBadArgs aBadLimit aBadLog aBadVariable aBadPlacing aBadSteps aBadMeasures aBadNumber aBadBook aBadIndex aBadNever aBadGoal aBadHints aBadShowings aBadNeeds aBadRatio aZeroBottom aBadSystem aBadLine aBadTemplate aBadPoint aBadAmounts aBadLevels aNoCells aNotNew aTooGreat aBadEffort aBadImage aUnfit aBadText aNotChecked aNotRight aNotLet aBadListing aRefused).all (fun p => decide (PySem.W.subIn K (.ref p.2) (.ref aBadSteps) = some (decide (("BadSteps" : Str) ∈ (xva.lookup p.1).getD [])))) = true)
    (sT_BadSystem : (xvt aPaidError aBadProgram aBadCore aBadName aBadRow aBadKind aBadArgs aBadLimit aBadLog aBadVariable aBadPlacing aBadSteps aBadMeasures aBadNumber aBadBook aBadIndex aBadNever aBadGoal aBadHints aBadShowings aBadNeeds aBadRatio aZeroBottom aBadSystem aBadLine aBadTemplate aBadPoint aBadAmounts aBadLevels aNoCells aNotNew aTooGreat aBadEffort aBadImage aUnfit aBadText aNotChecked aNotRight aNotLet aBadListing aRefused).all (fun p => decide (PySem.W.subIn K (.ref p.2) (.ref aBadSystem) = some (decide (("BadSystem" : Str) ∈ (xva.lookup p.1).getD [])))) = true)
    (sT_BadTemplate : (xvt aPaidError aBadProgram aBadCore aBadName aBadRow aBadKind aBadArgs aBadLimit aBadLog aBadVariable aBadPlacing aBadSteps aBadMeasures aBadNumber aBadBook aBadIndex aBadNever aBadGoal aBadHints aBadShowings aBadNeeds aBadRatio aZeroBottom aBadSystem aBadLine aBadTemplate aBadPoint aBadAmounts aBadLevels aNoCells aNotNew aTooGreat aBadEffort aBadImage aUnfit aBadText aNotChecked aNotRight aNotLet aBadListing aRefused).all (fun p => decide (PySem.W.subIn K (.ref p.2) (.ref aBadTemplate) = some (decide (("BadTemplate" : Str) ∈ (xva.lookup p.1).getD [])))) = true)
    (sT_BadVariable : (xvt aPaidError aBadProgram aBadCore aBadName aBadRow aBadKind aBadArgs aBadLimit aBadLog aBadVariable aBadPlacing aBadSteps aBadMeasures aBadNumber aBadBook aBadIndex aBadNever aBadGoal aBadHints aBadShowings aBadNeeds aBadRatio aZeroBottom aBadSystem aBadLine aBadTemplate aBadPoint aBadAmounts aBadLevels aNoCells aNotNew aTooGreat aBadEffort aBadImage aUnfit aBadText aNotChecked aNotRight aNotLet aBadListing aRefused).all (fun p => decide (PySem.W.subIn K (.ref p.2) (.ref aBadVariable) = some (decide (("BadVariable" : Str) ∈ (xva.lookup p.1).getD [])))) = true)
    (sT_NoCells : (xvt aPaidError aBadProgram aBadCore aBadName aBadRow aBadKind aBadArgs aBadLimit aBadLog aBadVariable aBadPlacing aBadSteps aBadMeasures aBadNumber aBadBook aBadIndex aBadNever aBadGoal aBadHints aBadShowings aBadNeeds aBadRatio aZeroBottom aBadSystem aBadLine aBadTemplate aBadPoint aBadAmounts aBadLevels aNoCells aNotNew aTooGreat aBadEffort aBadImage aUnfit aBadText aNotChecked aNotRight aNotLet aBadListing aRefused).all (fun p => decide (PySem.W.subIn K (.ref p.2) (.ref aNoCells) = some (decide (("NoCells" : Str) ∈ (xva.lookup p.1).getD [])))) = true)
    (sT_NotNew : (xvt aPaidError aBadProgram aBadCore aBadName aBadRow aBadKind aBadArgs aBadLimit aBadLog aBadVariable aBadPlacing aBadSteps aBadMeasures aBadNumber aBadBook aBadIndex aBadNever aBadGoal aBadHints aBadShowings aBadNeeds aBadRatio aZeroBottom aBadSystem aBadLine aBadTemplate aBadPoint aBadAmounts aBadLevels aNoCells aNotNew aTooGreat aBadEffort aBadImage aUnfit aBadText aNotChecked aNotRight aNotLet aBadListing aRefused).all (fun p => decide (PySem.W.subIn K (.ref p.2) (.ref aNotNew) = some (decide (("NotNew" : Str) ∈ (xva.lookup p.1).getD [])))) = true)
    (sT_TooGreat : (xvt aPaidError aBadProgram aBadCore aBadName aBadRow aBadKind aBadArgs aBadLimit aBadLog aBadVariable aBadPlacing aBadSteps aBadMeasures aBadNumber aBadBook aBadIndex aBadNever aBadGoal aBadHints aBadShowings aBadNeeds aBadRatio aZeroBottom aBadSystem aBadLine aBadTemplate aBadPoint aBadAmounts aBadLevels aNoCells aNotNew aTooGreat aBadEffort aBadImage aUnfit aBadText aNotChecked aNotRight aNotLet aBadListing aRefused).all (fun p => decide (PySem.W.subIn K (.ref p.2) (.ref aTooGreat) = some (decide (("TooGreat" : Str) ∈ (xva.lookup p.1).getD [])))) = true)
    (sT_Unfit : (xvt aPaidError aBadProgram aBadCore aBadName aBadRow aBadKind aBadArgs aBadLimit aBadLog aBadVariable aBadPlacing aBadSteps aBadMeasures aBadNumber aBadBook aBadIndex aBadNever aBadGoal aBadHints aBadShowings aBadNeeds aBadRatio aZeroBottom aBadSystem aBadLine aBadTemplate aBadPoint aBadAmounts aBadLevels aNoCells aNotNew aTooGreat aBadEffort aBadImage aUnfit aBadText aNotChecked aNotRight aNotLet aBadListing aRefused).all (fun p => decide (PySem.W.subIn K (.ref p.2) (.ref aUnfit) = some (decide (("Unfit" : Str) ∈ (xva.lookup p.1).getD [])))) = true)
    (sT_ZeroBottom : (xvt aPaidError aBadProgram aBadCore aBadName aBadRow aBadKind aBadArgs aBadLimit aBadLog aBadVariable aBadPlacing aBadSteps aBadMeasures aBadNumber aBadBook aBadIndex aBadNever aBadGoal aBadHints aBadShowings aBadNeeds aBadRatio aZeroBottom aBadSystem aBadLine aBadTemplate aBadPoint aBadAmounts aBadLevels aNoCells aNotNew aTooGreat aBadEffort aBadImage aUnfit aBadText aNotChecked aNotRight aNotLet aBadListing aRefused).all (fun p => decide (PySem.W.subIn K (.ref p.2) (.ref aZeroBottom) = some (decide (("ZeroBottom" : Str) ∈ (xva.lookup p.1).getD [])))) = true)
    (sT_PaidError : (xvt aPaidError aBadProgram aBadCore aBadName aBadRow aBadKind aBadArgs aBadLimit aBadLog aBadVariable aBadPlacing aBadSteps aBadMeasures aBadNumber aBadBook aBadIndex aBadNever aBadGoal aBadHints aBadShowings aBadNeeds aBadRatio aZeroBottom aBadSystem aBadLine aBadTemplate aBadPoint aBadAmounts aBadLevels aNoCells aNotNew aTooGreat aBadEffort aBadImage aUnfit aBadText aNotChecked aNotRight aNotLet aBadListing aRefused).all (fun p => decide (PySem.W.subIn K (.ref p.2) (.ref aPaidError) = some (decide (("PaidError" : Str) ∈ (xva.lookup p.1).getD [])))) = true)
    (sT_ValueError : (xvt aPaidError aBadProgram aBadCore aBadName aBadRow aBadKind aBadArgs aBadLimit aBadLog aBadVariable aBadPlacing aBadSteps aBadMeasures aBadNumber aBadBook aBadIndex aBadNever aBadGoal aBadHints aBadShowings aBadNeeds aBadRatio aZeroBottom aBadSystem aBadLine aBadTemplate aBadPoint aBadAmounts aBadLevels aNoCells aNotNew aTooGreat aBadEffort aBadImage aUnfit aBadText aNotChecked aNotRight aNotLet aBadListing aRefused).all (fun p => decide (PySem.W.subIn K (.ref p.2) (.type "ValueError") = some (decide (("ValueError" : Str) ∈ (xva.lookup p.1).getD [])))) = true)
    (xe_place_BadText : L2.xfB K aBadText = true)
    (xe_what_NotChecked : L2.xfB K aNotChecked = true)
    (xe_what_NotRight : L2.xfB K aNotRight = true)
    (xe_index_NotLet : L2.xfB K aNotLet = true)
    (xe_line_BadListing : L2.xfB K aBadListing = true)
    (xe_name_Refused : L2.xfB K aRefused = true)
    (xe_row_Refused : L2.xfB K aRefused = true)
    (xe_address_Refused : L2.xfB K aRefused = true)
    (a__law_bag : PySem.W.nsIn K mainGlobals "_law_bag" = some (some (.ref f__law_bag)))
    (l__law_bag : K.lookup f__law_bag = some ⟨oc__law_bag, od__law_bag, .func (PySem.W.fnOf "_law_bag" "_law_bag" (defArgs s__law_bag) (defBody s__law_bag) (defScope s__law_bag) .none kV__law_bag dc__law_bag pm__law_bag an__law_bag cd__law_bag ct__law_bag), sl__law_bag⟩)
    (c__law_bag : PySem.W.codeIn K cd__law_bag "_law_bag" = true)
    (k__law_bag : PySem.W.keepIn K (.ref f__law_bag) = true)
    (a__law_pick : PySem.W.nsIn K mainGlobals "_law_pick" = some (some (.ref f__law_pick)))
    (l__law_pick : K.lookup f__law_pick = some ⟨oc__law_pick, od__law_pick, .func (PySem.W.fnOf "_law_pick" "_law_pick" (defArgs s__law_pick) (defBody s__law_pick) (defScope s__law_pick) .none kV__law_pick dc__law_pick pm__law_pick an__law_pick cd__law_pick ct__law_pick), sl__law_pick⟩)
    (c__law_pick : PySem.W.codeIn K cd__law_pick "_law_pick" = true)
    (k__law_pick : PySem.W.keepIn K (.ref f__law_pick) = true)
    (a__law_word : PySem.W.nsIn K mainGlobals "_law_word" = some (some (.ref f__law_word)))
    (l__law_word : K.lookup f__law_word = some ⟨oc__law_word, od__law_word, .func (PySem.W.fnOf "_law_word" "_law_word" (defArgs s__law_word) (defBody s__law_word) (defScope s__law_word) .none kV__law_word dc__law_word pm__law_word an__law_word cd__law_word ct__law_word), sl__law_word⟩)
    (c__law_word : PySem.W.codeIn K cd__law_word "_law_word" = true)
    (k__law_word : PySem.W.keepIn K (.ref f__law_word) = true)
    (a__law_same : PySem.W.nsIn K mainGlobals "_law_same" = some (some (.ref f__law_same)))
    (l__law_same : K.lookup f__law_same = some ⟨oc__law_same, od__law_same, .func (PySem.W.fnOf "_law_same" "_law_same" (defArgs s__law_same) (defBody s__law_same) (defScope s__law_same) .none kV__law_same dc__law_same pm__law_same an__law_same cd__law_same ct__law_same), sl__law_same⟩)
    (c__law_same : PySem.W.codeIn K cd__law_same "_law_same" = true)
    (k__law_same : PySem.W.keepIn K (.ref f__law_same) = true)
    (a__law_marks : PySem.W.nsIn K mainGlobals "_law_marks" = some (some (.ref f__law_marks)))
    (l__law_marks : K.lookup f__law_marks = some ⟨oc__law_marks, od__law_marks, .func (PySem.W.fnOf "_law_marks" "_law_marks" (defArgs s__law_marks) (defBody s__law_marks) (defScope s__law_marks) .none kV__law_marks dc__law_marks pm__law_marks an__law_marks cd__law_marks ct__law_marks), sl__law_marks⟩)
    (c__law_marks : PySem.W.codeIn K cd__law_marks "_law_marks" = true)
    (k__law_marks : PySem.W.keepIn K (.ref f__law_marks) = true)
    (a__law_made : PySem.W.nsIn K mainGlobals "_law_made" = some (some (.ref f__law_made)))
    (l__law_made : K.lookup f__law_made = some ⟨oc__law_made, od__law_made, .func (PySem.W.fnOf "_law_made" "_law_made" (defArgs s__law_made) (defBody s__law_made) (defScope s__law_made) .none kV__law_made dc__law_made pm__law_made an__law_made cd__law_made ct__law_made), sl__law_made⟩)
    (c__law_made : PySem.W.codeIn K cd__law_made "_law_made" = true)
    (k__law_made : PySem.W.keepIn K (.ref f__law_made) = true)
    (a_law : PySem.W.nsIn K mainGlobals "law" = some (some (.ref f_law)))
    (l_law : K.lookup f_law = some ⟨oc_law, od_law, .func (PySem.W.fnOf "law" "law" (defArgs s_law) (defBody s_law) (defScope s_law) .none kV_law dc_law pm_law an_law cd_law ct_law), sl_law⟩)
    (c_law : PySem.W.codeIn K cd_law "law" = true)
    (k_law : PySem.W.keepIn K (.ref f_law) = true) :
    ∃ fd : FuncData, (∀ (s : Shared) (v : Value), BindsTo s fd ⟨[v], []⟩ [("script", v)]) ∧ ∀ base : Heap, K.In base → base.Ns mainGlobals mg → FnOk l.prog w K mg base (L2.CX l.prog w) 200 fa fd ["script"] (spLaw K) := by
  have e := hfa.symm.trans (PySem.W.mg_of X G a_law)
  cases e
  have xC : ∀ p ∈ (xvt aPaidError aBadProgram aBadCore aBadName aBadRow aBadKind aBadArgs aBadLimit aBadLog aBadVariable aBadPlacing aBadSteps aBadMeasures aBadNumber aBadBook aBadIndex aBadNever aBadGoal aBadHints aBadShowings aBadNeeds aBadRatio aZeroBottom aBadSystem aBadLine aBadTemplate aBadPoint aBadAmounts aBadLevels aNoCells aNotNew aTooGreat aBadEffort aBadImage aUnfit aBadText aNotChecked aNotRight aNotLet aBadListing aRefused), ExcC K p.2 := fun p hp => excB_ok xn xt (all_mem xcB p hp)
  have hcl_xBadText : PySem.W.clsIn K aBadText = some cdC_xBadText := by
    obtain ⟨z1, z2⟩ := xp_xBadText
    obtain ⟨c1, c2, c3, c4⟩ := oC_xBadText
    cases z1; cases z2
    unfold PySem.W.clsIn
    rw [xo_xBadText]
  have hcl_xNotChecked : PySem.W.clsIn K aNotChecked = some cdC_xNotChecked := by
    obtain ⟨z1, z2⟩ := xp_xNotChecked
    obtain ⟨c1, c2, c3, c4⟩ := oC_xNotChecked
    cases z1; cases z2
    unfold PySem.W.clsIn
    rw [xo_xNotChecked]
  have hcl_xNotRight : PySem.W.clsIn K aNotRight = some cdC_xNotRight := by
    obtain ⟨z1, z2⟩ := xp_xNotRight
    obtain ⟨c1, c2, c3, c4⟩ := oC_xNotRight
    cases z1; cases z2
    unfold PySem.W.clsIn
    rw [xo_xNotRight]
  have hcl_xNotLet : PySem.W.clsIn K aNotLet = some cdC_xNotLet := by
    obtain ⟨z1, z2⟩ := xp_xNotLet
    obtain ⟨c1, c2, c3, c4⟩ := oC_xNotLet
    cases z1; cases z2
    unfold PySem.W.clsIn
    rw [xo_xNotLet]
  have hcl_xBadListing : PySem.W.clsIn K aBadListing = some cdC_xBadListing := by
    obtain ⟨z1, z2⟩ := xp_xBadListing
    obtain ⟨c1, c2, c3, c4⟩ := oC_xBadListing
    cases z1; cases z2
    unfold PySem.W.clsIn
    rw [xo_xBadListing]
  have hcl_xRefused : PySem.W.clsIn K aRefused = some cdC_xRefused := by
    obtain ⟨z1, z2⟩ := xp_xRefused
    obtain ⟨c1, c2, c3, c4⟩ := oC_xRefused
    cases z1; cases z2
    unfold PySem.W.clsIn
    rw [xo_xRefused]
  let ca : Ev := ⟨fun z => match (xvt aPaidError aBadProgram aBadCore aBadName aBadRow aBadKind aBadArgs aBadLimit aBadLog aBadVariable aBadPlacing aBadSteps aBadMeasures aBadNumber aBadBook aBadIndex aBadNever aBadGoal aBadHints aBadShowings aBadNeeds aBadRatio aZeroBottom aBadSystem aBadLine aBadTemplate aBadPoint aBadAmounts aBadLevels aNoCells aNotNew aTooGreat aBadEffort aBadImage aUnfit aBadText aNotChecked aNotRight aNotLet aBadListing aRefused).lookup z with | some a => a | none => fa, l.prog, w⟩
  have eP : ca.P = l.prog := rfl
  have eW : ca.w = w := rfl
  have ca_PaidError : ca "PaidError" = aPaidError := by first | rfl | decide +kernel
  have ca_BadProgram : ca "BadProgram" = aBadProgram := by first | rfl | decide +kernel
  have ca_BadCore : ca "BadCore" = aBadCore := by first | rfl | decide +kernel
  have ca_BadName : ca "BadName" = aBadName := by first | rfl | decide +kernel
  have ca_BadRow : ca "BadRow" = aBadRow := by first | rfl | decide +kernel
  have ca_BadKind : ca "BadKind" = aBadKind := by first | rfl | decide +kernel
  have ca_BadArgs : ca "BadArgs" = aBadArgs := by first | rfl | decide +kernel
  have ca_BadLimit : ca "BadLimit" = aBadLimit := by first | rfl | decide +kernel
  have ca_BadLog : ca "BadLog" = aBadLog := by first | rfl | decide +kernel
  have ca_BadVariable : ca "BadVariable" = aBadVariable := by first | rfl | decide +kernel
  have ca_BadPlacing : ca "BadPlacing" = aBadPlacing := by first | rfl | decide +kernel
  have ca_BadSteps : ca "BadSteps" = aBadSteps := by first | rfl | decide +kernel
  have ca_BadMeasures : ca "BadMeasures" = aBadMeasures := by first | rfl | decide +kernel
  have ca_BadNumber : ca "BadNumber" = aBadNumber := by first | rfl | decide +kernel
  have ca_BadBook : ca "BadBook" = aBadBook := by first | rfl | decide +kernel
  have ca_BadIndex : ca "BadIndex" = aBadIndex := by first | rfl | decide +kernel
  have ca_BadNever : ca "BadNever" = aBadNever := by first | rfl | decide +kernel
  have ca_BadGoal : ca "BadGoal" = aBadGoal := by first | rfl | decide +kernel
  have ca_BadHints : ca "BadHints" = aBadHints := by first | rfl | decide +kernel
  have ca_BadShowings : ca "BadShowings" = aBadShowings := by first | rfl | decide +kernel
  have ca_BadNeeds : ca "BadNeeds" = aBadNeeds := by first | rfl | decide +kernel
  have ca_BadRatio : ca "BadRatio" = aBadRatio := by first | rfl | decide +kernel
  have ca_ZeroBottom : ca "ZeroBottom" = aZeroBottom := by first | rfl | decide +kernel
  have ca_BadSystem : ca "BadSystem" = aBadSystem := by first | rfl | decide +kernel
  have ca_BadLine : ca "BadLine" = aBadLine := by first | rfl | decide +kernel
  have ca_BadTemplate : ca "BadTemplate" = aBadTemplate := by first | rfl | decide +kernel
  have ca_BadPoint : ca "BadPoint" = aBadPoint := by first | rfl | decide +kernel
  have ca_BadAmounts : ca "BadAmounts" = aBadAmounts := by first | rfl | decide +kernel
  have ca_BadLevels : ca "BadLevels" = aBadLevels := by first | rfl | decide +kernel
  have ca_NoCells : ca "NoCells" = aNoCells := by first | rfl | decide +kernel
  have ca_NotNew : ca "NotNew" = aNotNew := by first | rfl | decide +kernel
  have ca_TooGreat : ca "TooGreat" = aTooGreat := by first | rfl | decide +kernel
  have ca_BadEffort : ca "BadEffort" = aBadEffort := by first | rfl | decide +kernel
  have ca_BadImage : ca "BadImage" = aBadImage := by first | rfl | decide +kernel
  have ca_Unfit : ca "Unfit" = aUnfit := by first | rfl | decide +kernel
  have ca_BadText : ca "BadText" = aBadText := by first | rfl | decide +kernel
  have ca_NotChecked : ca "NotChecked" = aNotChecked := by first | rfl | decide +kernel
  have ca_NotRight : ca "NotRight" = aNotRight := by first | rfl | decide +kernel
  have ca_NotLet : ca "NotLet" = aNotLet := by first | rfl | decide +kernel
  have ca_BadListing : ca "BadListing" = aBadListing := by first | rfl | decide +kernel
  have ca_Refused : ca "Refused" = aRefused := by first | rfl | decide +kernel
  clear_value ca
  have hca : ∀ p ∈ xvt aPaidError aBadProgram aBadCore aBadName aBadRow aBadKind aBadArgs aBadLimit aBadLog aBadVariable aBadPlacing aBadSteps aBadMeasures aBadNumber aBadBook aBadIndex aBadNever aBadGoal aBadHints aBadShowings aBadNeeds aBadRatio aZeroBottom aBadSystem aBadLine aBadTemplate aBadPoint aBadAmounts aBadLevels aNoCells aNotNew aTooGreat aBadEffort aBadImage aUnfit aBadText aNotChecked aNotRight aNotLet aBadListing aRefused, ca.cls p.1 = p.2 := by
    intro p hp
    simp only [xvt, List.mem_cons, List.not_mem_nil, or_false] at hp
    rcases hp with rfl | rfl | rfl | rfl | rfl | rfl | rfl | rfl | rfl | rfl | rfl | rfl | rfl | rfl | rfl | rfl | rfl | rfl | rfl | rfl | rfl | rfl | rfl | rfl | rfl | rfl | rfl | rfl | rfl | rfl | rfl | rfl | rfl | rfl | rfl | rfl | rfl | rfl | rfl | rfl | rfl
    · exact ca_PaidError
    · exact ca_BadProgram
    · exact ca_BadCore
    · exact ca_BadName
    · exact ca_BadRow
    · exact ca_BadKind
    · exact ca_BadArgs
    · exact ca_BadLimit
    · exact ca_BadLog
    · exact ca_BadVariable
    · exact ca_BadPlacing
    · exact ca_BadSteps
    · exact ca_BadMeasures
    · exact ca_BadNumber
    · exact ca_BadBook
    · exact ca_BadIndex
    · exact ca_BadNever
    · exact ca_BadGoal
    · exact ca_BadHints
    · exact ca_BadShowings
    · exact ca_BadNeeds
    · exact ca_BadRatio
    · exact ca_ZeroBottom
    · exact ca_BadSystem
    · exact ca_BadLine
    · exact ca_BadTemplate
    · exact ca_BadPoint
    · exact ca_BadAmounts
    · exact ca_BadLevels
    · exact ca_NoCells
    · exact ca_NotNew
    · exact ca_TooGreat
    · exact ca_BadEffort
    · exact ca_BadImage
    · exact ca_Unfit
    · exact ca_BadText
    · exact ca_NotChecked
    · exact ca_NotRight
    · exact ca_NotLet
    · exact ca_BadListing
    · exact ca_Refused
  have M : Md l.prog w K mg ca := {
      z_ValueError := PySem.W.mg_none_of X G z_ValueError
      z_abs := PySem.W.mg_none_of X G z_abs
      z_bool := PySem.W.mg_none_of X G z_bool
      z_int := PySem.W.mg_none_of X G z_int
      z_isinstance := PySem.W.mg_none_of X G z_isinstance
      z_len := PySem.W.mg_none_of X G z_len
      z_list := PySem.W.mg_none_of X G z_list
      z_range := PySem.W.mg_none_of X G z_range
      z_str := PySem.W.mg_none_of X G z_str
      z_tuple := PySem.W.mg_none_of X G z_tuple
      xg_PaidError := by rw [ca_PaidError]; exact PySem.W.mg_of X G ea_PaidError
      xe_PaidError := by rw [ca_PaidError]; exact ⟨PySem.W.mg_of X G ea_PaidError, ex_PaidError, ek_PaidError, eb_PaidError, et_PaidError, ei_PaidError⟩
      xg_BadProgram := by rw [ca_BadProgram]; exact PySem.W.mg_of X G ea_BadProgram
      xe_BadProgram := by rw [ca_BadProgram]; exact ⟨PySem.W.mg_of X G ea_BadProgram, ex_BadProgram, ek_BadProgram, eb_BadProgram, et_BadProgram, ei_BadProgram⟩
      xg_BadCore := by rw [ca_BadCore]; exact PySem.W.mg_of X G ea_BadCore
      xe_BadCore := by rw [ca_BadCore]; exact ⟨PySem.W.mg_of X G ea_BadCore, ex_BadCore, ek_BadCore, eb_BadCore, et_BadCore, ei_BadCore⟩
      xg_BadName := by rw [ca_BadName]; exact PySem.W.mg_of X G ea_BadName
      xe_BadName := by rw [ca_BadName]; exact ⟨PySem.W.mg_of X G ea_BadName, ex_BadName, ek_BadName, eb_BadName, et_BadName, ei_BadName⟩
      xg_BadRow := by rw [ca_BadRow]; exact PySem.W.mg_of X G ea_BadRow
      xe_BadRow := by rw [ca_BadRow]; exact ⟨PySem.W.mg_of X G ea_BadRow, ex_BadRow, ek_BadRow, eb_BadRow, et_BadRow, ei_BadRow⟩
      xg_BadKind := by rw [ca_BadKind]; exact PySem.W.mg_of X G ea_BadKind
      xe_BadKind := by rw [ca_BadKind]; exact ⟨PySem.W.mg_of X G ea_BadKind, ex_BadKind, ek_BadKind, eb_BadKind, et_BadKind, ei_BadKind⟩
      xg_BadArgs := by rw [ca_BadArgs]; exact PySem.W.mg_of X G ea_BadArgs
      xe_BadArgs := by rw [ca_BadArgs]; exact ⟨PySem.W.mg_of X G ea_BadArgs, ex_BadArgs, ek_BadArgs, eb_BadArgs, et_BadArgs, ei_BadArgs⟩
      xg_BadLimit := by rw [ca_BadLimit]; exact PySem.W.mg_of X G ea_BadLimit
      xe_BadLimit := by rw [ca_BadLimit]; exact ⟨PySem.W.mg_of X G ea_BadLimit, ex_BadLimit, ek_BadLimit, eb_BadLimit, et_BadLimit, ei_BadLimit⟩
      xg_BadLog := by rw [ca_BadLog]; exact PySem.W.mg_of X G ea_BadLog
      xe_BadLog := by rw [ca_BadLog]; exact ⟨PySem.W.mg_of X G ea_BadLog, ex_BadLog, ek_BadLog, eb_BadLog, et_BadLog, ei_BadLog⟩
      xg_BadVariable := by rw [ca_BadVariable]; exact PySem.W.mg_of X G ea_BadVariable
      xe_BadVariable := by rw [ca_BadVariable]; exact ⟨PySem.W.mg_of X G ea_BadVariable, ex_BadVariable, ek_BadVariable, eb_BadVariable, et_BadVariable, ei_BadVariable⟩
      xg_BadPlacing := by rw [ca_BadPlacing]; exact PySem.W.mg_of X G ea_BadPlacing
      xe_BadPlacing := by rw [ca_BadPlacing]; exact ⟨PySem.W.mg_of X G ea_BadPlacing, ex_BadPlacing, ek_BadPlacing, eb_BadPlacing, et_BadPlacing, ei_BadPlacing⟩
      xg_BadSteps := by rw [ca_BadSteps]; exact PySem.W.mg_of X G ea_BadSteps
      xe_BadSteps := by rw [ca_BadSteps]; exact ⟨PySem.W.mg_of X G ea_BadSteps, ex_BadSteps, ek_BadSteps, eb_BadSteps, et_BadSteps, ei_BadSteps⟩
      xg_BadMeasures := by rw [ca_BadMeasures]; exact PySem.W.mg_of X G ea_BadMeasures
      xe_BadMeasures := by rw [ca_BadMeasures]; exact ⟨PySem.W.mg_of X G ea_BadMeasures, ex_BadMeasures, ek_BadMeasures, eb_BadMeasures, et_BadMeasures, ei_BadMeasures⟩
      xg_BadNumber := by rw [ca_BadNumber]; exact PySem.W.mg_of X G ea_BadNumber
      xe_BadNumber := by rw [ca_BadNumber]; exact ⟨PySem.W.mg_of X G ea_BadNumber, ex_BadNumber, ek_BadNumber, eb_BadNumber, et_BadNumber, ei_BadNumber⟩
      xg_BadBook := by rw [ca_BadBook]; exact PySem.W.mg_of X G ea_BadBook
      xe_BadBook := by rw [ca_BadBook]; exact ⟨PySem.W.mg_of X G ea_BadBook, ex_BadBook, ek_BadBook, eb_BadBook, et_BadBook, ei_BadBook⟩
      xg_BadIndex := by rw [ca_BadIndex]; exact PySem.W.mg_of X G ea_BadIndex
      xe_BadIndex := by rw [ca_BadIndex]; exact ⟨PySem.W.mg_of X G ea_BadIndex, ex_BadIndex, ek_BadIndex, eb_BadIndex, et_BadIndex, ei_BadIndex⟩
      xg_BadNever := by rw [ca_BadNever]; exact PySem.W.mg_of X G ea_BadNever
      xe_BadNever := by rw [ca_BadNever]; exact ⟨PySem.W.mg_of X G ea_BadNever, ex_BadNever, ek_BadNever, eb_BadNever, et_BadNever, ei_BadNever⟩
      xg_BadGoal := by rw [ca_BadGoal]; exact PySem.W.mg_of X G ea_BadGoal
      xe_BadGoal := by rw [ca_BadGoal]; exact ⟨PySem.W.mg_of X G ea_BadGoal, ex_BadGoal, ek_BadGoal, eb_BadGoal, et_BadGoal, ei_BadGoal⟩
      xg_BadHints := by rw [ca_BadHints]; exact PySem.W.mg_of X G ea_BadHints
      xe_BadHints := by rw [ca_BadHints]; exact ⟨PySem.W.mg_of X G ea_BadHints, ex_BadHints, ek_BadHints, eb_BadHints, et_BadHints, ei_BadHints⟩
      xg_BadShowings := by rw [ca_BadShowings]; exact PySem.W.mg_of X G ea_BadShowings
      xe_BadShowings := by rw [ca_BadShowings]; exact ⟨PySem.W.mg_of X G ea_BadShowings, ex_BadShowings, ek_BadShowings, eb_BadShowings, et_BadShowings, ei_BadShowings⟩
      xg_BadNeeds := by rw [ca_BadNeeds]; exact PySem.W.mg_of X G ea_BadNeeds
      xe_BadNeeds := by rw [ca_BadNeeds]; exact ⟨PySem.W.mg_of X G ea_BadNeeds, ex_BadNeeds, ek_BadNeeds, eb_BadNeeds, et_BadNeeds, ei_BadNeeds⟩
      xg_BadRatio := by rw [ca_BadRatio]; exact PySem.W.mg_of X G ea_BadRatio
      xe_BadRatio := by rw [ca_BadRatio]; exact ⟨PySem.W.mg_of X G ea_BadRatio, ex_BadRatio, ek_BadRatio, eb_BadRatio, et_BadRatio, ei_BadRatio⟩
      xg_ZeroBottom := by rw [ca_ZeroBottom]; exact PySem.W.mg_of X G ea_ZeroBottom
      xe_ZeroBottom := by rw [ca_ZeroBottom]; exact ⟨PySem.W.mg_of X G ea_ZeroBottom, ex_ZeroBottom, ek_ZeroBottom, eb_ZeroBottom, et_ZeroBottom, ei_ZeroBottom⟩
      xg_BadSystem := by rw [ca_BadSystem]; exact PySem.W.mg_of X G ea_BadSystem
      xe_BadSystem := by rw [ca_BadSystem]; exact ⟨PySem.W.mg_of X G ea_BadSystem, ex_BadSystem, ek_BadSystem, eb_BadSystem, et_BadSystem, ei_BadSystem⟩
      xg_BadLine := by rw [ca_BadLine]; exact PySem.W.mg_of X G ea_BadLine
      xe_BadLine := by rw [ca_BadLine]; exact ⟨PySem.W.mg_of X G ea_BadLine, ex_BadLine, ek_BadLine, eb_BadLine, et_BadLine, ei_BadLine⟩
      xg_BadTemplate := by rw [ca_BadTemplate]; exact PySem.W.mg_of X G ea_BadTemplate
      xe_BadTemplate := by rw [ca_BadTemplate]; exact ⟨PySem.W.mg_of X G ea_BadTemplate, ex_BadTemplate, ek_BadTemplate, eb_BadTemplate, et_BadTemplate, ei_BadTemplate⟩
      xg_BadPoint := by rw [ca_BadPoint]; exact PySem.W.mg_of X G ea_BadPoint
      xe_BadPoint := by rw [ca_BadPoint]; exact ⟨PySem.W.mg_of X G ea_BadPoint, ex_BadPoint, ek_BadPoint, eb_BadPoint, et_BadPoint, ei_BadPoint⟩
      xg_BadAmounts := by rw [ca_BadAmounts]; exact PySem.W.mg_of X G ea_BadAmounts
      xe_BadAmounts := by rw [ca_BadAmounts]; exact ⟨PySem.W.mg_of X G ea_BadAmounts, ex_BadAmounts, ek_BadAmounts, eb_BadAmounts, et_BadAmounts, ei_BadAmounts⟩
      xg_BadLevels := by rw [ca_BadLevels]; exact PySem.W.mg_of X G ea_BadLevels
      xe_BadLevels := by rw [ca_BadLevels]; exact ⟨PySem.W.mg_of X G ea_BadLevels, ex_BadLevels, ek_BadLevels, eb_BadLevels, et_BadLevels, ei_BadLevels⟩
      xg_NoCells := by rw [ca_NoCells]; exact PySem.W.mg_of X G ea_NoCells
      xe_NoCells := by rw [ca_NoCells]; exact ⟨PySem.W.mg_of X G ea_NoCells, ex_NoCells, ek_NoCells, eb_NoCells, et_NoCells, ei_NoCells⟩
      xg_NotNew := by rw [ca_NotNew]; exact PySem.W.mg_of X G ea_NotNew
      xe_NotNew := by rw [ca_NotNew]; exact ⟨PySem.W.mg_of X G ea_NotNew, ex_NotNew, ek_NotNew, eb_NotNew, et_NotNew, ei_NotNew⟩
      xg_TooGreat := by rw [ca_TooGreat]; exact PySem.W.mg_of X G ea_TooGreat
      xe_TooGreat := by rw [ca_TooGreat]; exact ⟨PySem.W.mg_of X G ea_TooGreat, ex_TooGreat, ek_TooGreat, eb_TooGreat, et_TooGreat, ei_TooGreat⟩
      xg_BadEffort := by rw [ca_BadEffort]; exact PySem.W.mg_of X G ea_BadEffort
      xe_BadEffort := by rw [ca_BadEffort]; exact ⟨PySem.W.mg_of X G ea_BadEffort, ex_BadEffort, ek_BadEffort, eb_BadEffort, et_BadEffort, ei_BadEffort⟩
      xg_BadImage := by rw [ca_BadImage]; exact PySem.W.mg_of X G ea_BadImage
      xe_BadImage := by rw [ca_BadImage]; exact ⟨PySem.W.mg_of X G ea_BadImage, ex_BadImage, ek_BadImage, eb_BadImage, et_BadImage, ei_BadImage⟩
      xg_Unfit := by rw [ca_Unfit]; exact PySem.W.mg_of X G ea_Unfit
      xe_Unfit := by rw [ca_Unfit]; exact ⟨PySem.W.mg_of X G ea_Unfit, ex_Unfit, ek_Unfit, eb_Unfit, et_Unfit, ei_Unfit⟩
      xg_BadText := by rw [ca_BadText]; exact PySem.W.mg_of X G ea_BadText
      xg_NotChecked := by rw [ca_NotChecked]; exact PySem.W.mg_of X G ea_NotChecked
      xg_NotRight := by rw [ca_NotRight]; exact PySem.W.mg_of X G ea_NotRight
      xg_NotLet := by rw [ca_NotLet]; exact PySem.W.mg_of X G ea_NotLet
      xg_BadListing := by rw [ca_BadListing]; exact PySem.W.mg_of X G ea_BadListing
      xg_Refused := by rw [ca_Refused]; exact PySem.W.mg_of X G ea_Refused
      xm_BadText_ := by
        rw [ca_BadText]
        exact excM1_mk (st := (inClass (topS 36) 0)) (x := "BadText") (msg := "the text is no such text") X G PySem.F.excBase_ValueError PySem.W.kxs_ValueError ea_BadText ek_BadText xa_xBadText xi_xBadText xl_xBadText xc_xBadText xd_xBadText xv_xBadText xw_xBadText xx_xBadText xq_xBadText hcl_xBadText xr_xBadText xs_xBadText xt_xBadText xu_xBadText xy_xBadText xC_xBadText xD_xBadText xA_xBadText xB_xBadText rfl rfl rfl rfl rfl (by decide) rfl rfl rfl rfl rfl (by decide) (by decide) xz_xBadText_place (fun us hu => by show us.length ≤ 100; omega) (fun _ _ _ _ _ _ _ _ _ => rfl) (fun _ => rfl)
      xm_BadText_place := by
        rw [ca_BadText]
        exact excM1_mk (st := (inClass (topS 36) 0)) (x := "BadText") (msg := "the text is no such text") X G PySem.F.excBase_ValueError PySem.W.kxs_ValueError ea_BadText ek_BadText xa_xBadText xi_xBadText xl_xBadText xc_xBadText xd_xBadText xv_xBadText xw_xBadText xx_xBadText xq_xBadText hcl_xBadText xr_xBadText xs_xBadText xt_xBadText xu_xBadText xy_xBadText xC_xBadText xD_xBadText xA_xBadText xB_xBadText rfl rfl rfl rfl rfl (by decide) rfl rfl rfl rfl rfl (by decide) (by decide) xz_xBadText_place (fun us hu => by show (0 : Nat) ≤ 100; omega) (fun _ _ _ _ _ _ _ _ _ => rfl) (fun _ => rfl)
      xm_NotChecked_ := by
        rw [ca_NotChecked]
        exact excM1_mk (st := (inClass (topS 37) 0)) (x := "NotChecked") (msg := "the program is not right") X G PySem.F.excBase_ValueError PySem.W.kxs_ValueError ea_NotChecked ek_NotChecked xa_xNotChecked xi_xNotChecked xl_xNotChecked xc_xNotChecked xd_xNotChecked xv_xNotChecked xw_xNotChecked xx_xNotChecked xq_xNotChecked hcl_xNotChecked xr_xNotChecked xs_xNotChecked xt_xNotChecked xu_xNotChecked xy_xNotChecked xC_xNotChecked xD_xNotChecked xA_xNotChecked xB_xNotChecked rfl rfl rfl rfl rfl (by decide) rfl rfl rfl rfl rfl (by decide) (by decide) xz_xNotChecked_what (fun us hu => by show us.length ≤ 100; omega) (fun _ _ _ _ _ _ _ _ _ => rfl) (fun _ => rfl)
      xm_NotChecked_what := by
        rw [ca_NotChecked]
        exact excM1_mk (st := (inClass (topS 37) 0)) (x := "NotChecked") (msg := "the program is not right") X G PySem.F.excBase_ValueError PySem.W.kxs_ValueError ea_NotChecked ek_NotChecked xa_xNotChecked xi_xNotChecked xl_xNotChecked xc_xNotChecked xd_xNotChecked xv_xNotChecked xw_xNotChecked xx_xNotChecked xq_xNotChecked hcl_xNotChecked xr_xNotChecked xs_xNotChecked xt_xNotChecked xu_xNotChecked xy_xNotChecked xC_xNotChecked xD_xNotChecked xA_xNotChecked xB_xNotChecked rfl rfl rfl rfl rfl (by decide) rfl rfl rfl rfl rfl (by decide) (by decide) xz_xNotChecked_what (fun us hu => by show (0 : Nat) ≤ 100; omega) (fun _ _ _ _ _ _ _ _ _ => rfl) (fun _ => rfl)
      xm_NotRight_ := by
        rw [ca_NotRight]
        exact excM1_mk (st := (inClass (topS 38) 0)) (x := "NotRight") (msg := "the placing is not right") X G PySem.F.excBase_ValueError PySem.W.kxs_ValueError ea_NotRight ek_NotRight xa_xNotRight xi_xNotRight xl_xNotRight xc_xNotRight xd_xNotRight xv_xNotRight xw_xNotRight xx_xNotRight xq_xNotRight hcl_xNotRight xr_xNotRight xs_xNotRight xt_xNotRight xu_xNotRight xy_xNotRight xC_xNotRight xD_xNotRight xA_xNotRight xB_xNotRight rfl rfl rfl rfl rfl (by decide) rfl rfl rfl rfl rfl (by decide) (by decide) xz_xNotRight_what (fun us hu => by show us.length ≤ 100; omega) (fun _ _ _ _ _ _ _ _ _ => rfl) (fun _ => rfl)
      xm_NotRight_what := by
        rw [ca_NotRight]
        exact excM1_mk (st := (inClass (topS 38) 0)) (x := "NotRight") (msg := "the placing is not right") X G PySem.F.excBase_ValueError PySem.W.kxs_ValueError ea_NotRight ek_NotRight xa_xNotRight xi_xNotRight xl_xNotRight xc_xNotRight xd_xNotRight xv_xNotRight xw_xNotRight xx_xNotRight xq_xNotRight hcl_xNotRight xr_xNotRight xs_xNotRight xt_xNotRight xu_xNotRight xy_xNotRight xC_xNotRight xD_xNotRight xA_xNotRight xB_xNotRight rfl rfl rfl rfl rfl (by decide) rfl rfl rfl rfl rfl (by decide) (by decide) xz_xNotRight_what (fun us hu => by show (0 : Nat) ≤ 100; omega) (fun _ _ _ _ _ _ _ _ _ => rfl) (fun _ => rfl)
      xm_NotLet_ := by
        rw [ca_NotLet]
        exact excM1_mk (st := (inClass (topS 39) 0)) (x := "NotLet") (msg := "a step of the log is not let") X G PySem.F.excBase_ValueError PySem.W.kxs_ValueError ea_NotLet ek_NotLet xa_xNotLet xi_xNotLet xl_xNotLet xc_xNotLet xd_xNotLet xv_xNotLet xw_xNotLet xx_xNotLet xq_xNotLet hcl_xNotLet xr_xNotLet xs_xNotLet xt_xNotLet xu_xNotLet xy_xNotLet xC_xNotLet xD_xNotLet xA_xNotLet xB_xNotLet rfl rfl rfl rfl rfl (by decide) rfl rfl rfl rfl rfl (by decide) (by decide) xz_xNotLet_index (fun us hu => by show us.length ≤ 100; omega) (fun _ _ _ _ _ _ _ _ _ => rfl) (fun _ => rfl)
      xm_NotLet_index := by
        rw [ca_NotLet]
        exact excM1_mk (st := (inClass (topS 39) 0)) (x := "NotLet") (msg := "a step of the log is not let") X G PySem.F.excBase_ValueError PySem.W.kxs_ValueError ea_NotLet ek_NotLet xa_xNotLet xi_xNotLet xl_xNotLet xc_xNotLet xd_xNotLet xv_xNotLet xw_xNotLet xx_xNotLet xq_xNotLet hcl_xNotLet xr_xNotLet xs_xNotLet xt_xNotLet xu_xNotLet xy_xNotLet xC_xNotLet xD_xNotLet xA_xNotLet xB_xNotLet rfl rfl rfl rfl rfl (by decide) rfl rfl rfl rfl rfl (by decide) (by decide) xz_xNotLet_index (fun us hu => by show (0 : Nat) ≤ 100; omega) (fun _ _ _ _ _ _ _ _ _ => rfl) (fun _ => rfl)
      xm_BadListing_ := by
        rw [ca_BadListing]
        exact excM1_mk (st := (inClass (topS 40) 0)) (x := "BadListing") (msg := "the text is the text of no image") X G PySem.F.excBase_ValueError PySem.W.kxs_ValueError ea_BadListing ek_BadListing xa_xBadListing xi_xBadListing xl_xBadListing xc_xBadListing xd_xBadListing xv_xBadListing xw_xBadListing xx_xBadListing xq_xBadListing hcl_xBadListing xr_xBadListing xs_xBadListing xt_xBadListing xu_xBadListing xy_xBadListing xC_xBadListing xD_xBadListing xA_xBadListing xB_xBadListing rfl rfl rfl rfl rfl (by decide) rfl rfl rfl rfl rfl (by decide) (by decide) xz_xBadListing_line (fun us hu => by show us.length ≤ 100; omega) (fun _ _ _ _ _ _ _ _ _ => rfl) (fun _ => rfl)
      xm_BadListing_line := by
        rw [ca_BadListing]
        exact excM1_mk (st := (inClass (topS 40) 0)) (x := "BadListing") (msg := "the text is the text of no image") X G PySem.F.excBase_ValueError PySem.W.kxs_ValueError ea_BadListing ek_BadListing xa_xBadListing xi_xBadListing xl_xBadListing xc_xBadListing xd_xBadListing xv_xBadListing xw_xBadListing xx_xBadListing xq_xBadListing hcl_xBadListing xr_xBadListing xs_xBadListing xt_xBadListing xu_xBadListing xy_xBadListing xC_xBadListing xD_xBadListing xA_xBadListing xB_xBadListing rfl rfl rfl rfl rfl (by decide) rfl rfl rfl rfl rfl (by decide) (by decide) xz_xBadListing_line (fun us hu => by show (0 : Nat) ≤ 100; omega) (fun _ _ _ _ _ _ _ _ _ => rfl) (fun _ => rfl)
      xm_Refused_ := by
        rw [ca_Refused]
        exact excM3_mk (i1 := 0) (i2 := 1) (i3 := 2) (st := (inClass (topS 41) 0)) (x := "Refused") (msg := "the code judge refuses the image") X G PySem.F.excBase_ValueError PySem.W.kxs_ValueError ea_Refused ek_Refused xa_xRefused xi_xRefused xl_xRefused xc_xRefused xd_xRefused xv_xRefused xw_xRefused xx_xRefused xq_xRefused hcl_xRefused xr_xRefused xs_xRefused xt_xRefused xu_xRefused xy_xRefused xC_xRefused xD_xRefused xA_xRefused xB_xRefused rfl rfl rfl rfl rfl (by decide) rfl rfl rfl rfl (by
          intro p hp
          simp only [List.mem_cons, List.not_mem_nil, or_false] at hp
          rcases hp with rfl | rfl | rfl <;> exact ⟨rfl, by decide⟩) (by decide) (by
          intro f hf
          simp only [List.mem_cons, List.not_mem_nil, or_false] at hf
          rcases hf with rfl | rfl | rfl
          · exact xz_xRefused_name
          · exact xz_xRefused_row
          · exact xz_xRefused_address) (fun us hu => by show us.length ≤ 100; omega) (by decide) (fun _ _ _ _ _ _ _ _ us hu => match us, hu with | [_, _, _], _ => rfl) (fun _ => rfl)
      xm_Refused_address_row_name := by
        rw [ca_Refused]
        exact excM3_mk (i1 := 2) (i2 := 1) (i3 := 0) (st := (inClass (topS 41) 0)) (x := "Refused") (msg := "the code judge refuses the image") X G PySem.F.excBase_ValueError PySem.W.kxs_ValueError ea_Refused ek_Refused xa_xRefused xi_xRefused xl_xRefused xc_xRefused xd_xRefused xv_xRefused xw_xRefused xx_xRefused xq_xRefused hcl_xRefused xr_xRefused xs_xRefused xt_xRefused xu_xRefused xy_xRefused xC_xRefused xD_xRefused xA_xRefused xB_xRefused rfl rfl rfl rfl rfl (by decide) rfl rfl rfl rfl (by
          intro p hp
          simp only [List.mem_cons, List.not_mem_nil, or_false] at hp
          rcases hp with rfl | rfl | rfl <;> exact ⟨rfl, by decide⟩) (by decide) (by
          intro f hf
          simp only [List.mem_cons, List.not_mem_nil, or_false] at hf
          rcases hf with rfl | rfl | rfl
          · exact xz_xRefused_name
          · exact xz_xRefused_row
          · exact xz_xRefused_address) (fun us hu => by show (0 : Nat) ≤ 100; omega) (by decide) (fun _ _ _ _ _ _ _ _ us hu => match us, hu with | [_, _, _], _ => rfl) (fun _ => rfl)
      xi_BadText := by
        rw [ca_BadText]
        exact isx_mk hca rfl xC (kit_tab (tab := (xvt aPaidError aBadProgram aBadCore aBadName aBadRow aBadKind aBadArgs aBadLimit aBadLog aBadVariable aBadPlacing aBadSteps aBadMeasures aBadNumber aBadBook aBadIndex aBadNever aBadGoal aBadHints aBadShowings aBadNeeds aBadRatio aZeroBottom aBadSystem aBadLine aBadTemplate aBadPoint aBadAmounts aBadLevels aNoCells aNotNew aTooGreat aBadEffort aBadImage aUnfit aBadText aNotChecked aNotRight aNotLet aBadListing aRefused)) (C := aBadText) (f := fun k => decide (("BadText" : Str) ∈ (xva.lookup k).getD [])) (T := "BadText") ed_BadText et_BadText sT_BadText (by simp [xvt]) (by decide +kernel))
      xi_NotChecked := by
        rw [ca_NotChecked]
        exact isx_mk hca rfl xC (kit_tab (tab := (xvt aPaidError aBadProgram aBadCore aBadName aBadRow aBadKind aBadArgs aBadLimit aBadLog aBadVariable aBadPlacing aBadSteps aBadMeasures aBadNumber aBadBook aBadIndex aBadNever aBadGoal aBadHints aBadShowings aBadNeeds aBadRatio aZeroBottom aBadSystem aBadLine aBadTemplate aBadPoint aBadAmounts aBadLevels aNoCells aNotNew aTooGreat aBadEffort aBadImage aUnfit aBadText aNotChecked aNotRight aNotLet aBadListing aRefused)) (C := aNotChecked) (f := fun k => decide (("NotChecked" : Str) ∈ (xva.lookup k).getD [])) (T := "NotChecked") ed_NotChecked et_NotChecked sT_NotChecked (by simp [xvt]) (by decide +kernel))
      xi_NotRight := by
        rw [ca_NotRight]
        exact isx_mk hca rfl xC (kit_tab (tab := (xvt aPaidError aBadProgram aBadCore aBadName aBadRow aBadKind aBadArgs aBadLimit aBadLog aBadVariable aBadPlacing aBadSteps aBadMeasures aBadNumber aBadBook aBadIndex aBadNever aBadGoal aBadHints aBadShowings aBadNeeds aBadRatio aZeroBottom aBadSystem aBadLine aBadTemplate aBadPoint aBadAmounts aBadLevels aNoCells aNotNew aTooGreat aBadEffort aBadImage aUnfit aBadText aNotChecked aNotRight aNotLet aBadListing aRefused)) (C := aNotRight) (f := fun k => decide (("NotRight" : Str) ∈ (xva.lookup k).getD [])) (T := "NotRight") ed_NotRight et_NotRight sT_NotRight (by simp [xvt]) (by decide +kernel))
      xi_NotLet := by
        rw [ca_NotLet]
        exact isx_mk hca rfl xC (kit_tab (tab := (xvt aPaidError aBadProgram aBadCore aBadName aBadRow aBadKind aBadArgs aBadLimit aBadLog aBadVariable aBadPlacing aBadSteps aBadMeasures aBadNumber aBadBook aBadIndex aBadNever aBadGoal aBadHints aBadShowings aBadNeeds aBadRatio aZeroBottom aBadSystem aBadLine aBadTemplate aBadPoint aBadAmounts aBadLevels aNoCells aNotNew aTooGreat aBadEffort aBadImage aUnfit aBadText aNotChecked aNotRight aNotLet aBadListing aRefused)) (C := aNotLet) (f := fun k => decide (("NotLet" : Str) ∈ (xva.lookup k).getD [])) (T := "NotLet") ed_NotLet et_NotLet sT_NotLet (by simp [xvt]) (by decide +kernel))
      xi_BadListing := by
        rw [ca_BadListing]
        exact isx_mk hca rfl xC (kit_tab (tab := (xvt aPaidError aBadProgram aBadCore aBadName aBadRow aBadKind aBadArgs aBadLimit aBadLog aBadVariable aBadPlacing aBadSteps aBadMeasures aBadNumber aBadBook aBadIndex aBadNever aBadGoal aBadHints aBadShowings aBadNeeds aBadRatio aZeroBottom aBadSystem aBadLine aBadTemplate aBadPoint aBadAmounts aBadLevels aNoCells aNotNew aTooGreat aBadEffort aBadImage aUnfit aBadText aNotChecked aNotRight aNotLet aBadListing aRefused)) (C := aBadListing) (f := fun k => decide (("BadListing" : Str) ∈ (xva.lookup k).getD [])) (T := "BadListing") ed_BadListing et_BadListing sT_BadListing (by simp [xvt]) (by decide +kernel))
      xi_Refused := by
        rw [ca_Refused]
        exact isx_mk hca rfl xC (kit_tab (tab := (xvt aPaidError aBadProgram aBadCore aBadName aBadRow aBadKind aBadArgs aBadLimit aBadLog aBadVariable aBadPlacing aBadSteps aBadMeasures aBadNumber aBadBook aBadIndex aBadNever aBadGoal aBadHints aBadShowings aBadNeeds aBadRatio aZeroBottom aBadSystem aBadLine aBadTemplate aBadPoint aBadAmounts aBadLevels aNoCells aNotNew aTooGreat aBadEffort aBadImage aUnfit aBadText aNotChecked aNotRight aNotLet aBadListing aRefused)) (C := aRefused) (f := fun k => decide (("Refused" : Str) ∈ (xva.lookup k).getD [])) (T := "Refused") ed_Refused et_Refused sT_Refused (by simp [xvt]) (by decide +kernel))
      xi_BadAmounts := by
        rw [ca_BadAmounts]
        exact isx_mk hca rfl xC (kit_tab (tab := (xvt aPaidError aBadProgram aBadCore aBadName aBadRow aBadKind aBadArgs aBadLimit aBadLog aBadVariable aBadPlacing aBadSteps aBadMeasures aBadNumber aBadBook aBadIndex aBadNever aBadGoal aBadHints aBadShowings aBadNeeds aBadRatio aZeroBottom aBadSystem aBadLine aBadTemplate aBadPoint aBadAmounts aBadLevels aNoCells aNotNew aTooGreat aBadEffort aBadImage aUnfit aBadText aNotChecked aNotRight aNotLet aBadListing aRefused)) (C := aBadAmounts) (f := fun k => decide (("BadAmounts" : Str) ∈ (xva.lookup k).getD [])) (T := "BadAmounts") ed_BadAmounts et_BadAmounts sT_BadAmounts (by simp [xvt]) (by decide +kernel))
      xi_BadArgs := by
        rw [ca_BadArgs]
        exact isx_mk hca rfl xC (kit_tab (tab := (xvt aPaidError aBadProgram aBadCore aBadName aBadRow aBadKind aBadArgs aBadLimit aBadLog aBadVariable aBadPlacing aBadSteps aBadMeasures aBadNumber aBadBook aBadIndex aBadNever aBadGoal aBadHints aBadShowings aBadNeeds aBadRatio aZeroBottom aBadSystem aBadLine aBadTemplate aBadPoint aBadAmounts aBadLevels aNoCells aNotNew aTooGreat aBadEffort aBadImage aUnfit aBadText aNotChecked aNotRight aNotLet aBadListing aRefused)) (C := aBadArgs) (f := fun k => decide (("BadArgs" : Str) ∈ (xva.lookup k).getD [])) (T := "BadArgs") ed_BadArgs et_BadArgs sT_BadArgs (by simp [xvt]) (by decide +kernel))
      xi_BadBook := by
        rw [ca_BadBook]
        exact isx_mk hca rfl xC (kit_tab (tab := (xvt aPaidError aBadProgram aBadCore aBadName aBadRow aBadKind aBadArgs aBadLimit aBadLog aBadVariable aBadPlacing aBadSteps aBadMeasures aBadNumber aBadBook aBadIndex aBadNever aBadGoal aBadHints aBadShowings aBadNeeds aBadRatio aZeroBottom aBadSystem aBadLine aBadTemplate aBadPoint aBadAmounts aBadLevels aNoCells aNotNew aTooGreat aBadEffort aBadImage aUnfit aBadText aNotChecked aNotRight aNotLet aBadListing aRefused)) (C := aBadBook) (f := fun k => decide (("BadBook" : Str) ∈ (xva.lookup k).getD [])) (T := "BadBook") ed_BadBook et_BadBook sT_BadBook (by simp [xvt]) (by decide +kernel))
      xi_BadCore := by
        rw [ca_BadCore]
        exact isx_mk hca rfl xC (kit_tab (tab := (xvt aPaidError aBadProgram aBadCore aBadName aBadRow aBadKind aBadArgs aBadLimit aBadLog aBadVariable aBadPlacing aBadSteps aBadMeasures aBadNumber aBadBook aBadIndex aBadNever aBadGoal aBadHints aBadShowings aBadNeeds aBadRatio aZeroBottom aBadSystem aBadLine aBadTemplate aBadPoint aBadAmounts aBadLevels aNoCells aNotNew aTooGreat aBadEffort aBadImage aUnfit aBadText aNotChecked aNotRight aNotLet aBadListing aRefused)) (C := aBadCore) (f := fun k => decide (("BadCore" : Str) ∈ (xva.lookup k).getD [])) (T := "BadCore") ed_BadCore et_BadCore sT_BadCore (by simp [xvt]) (by decide +kernel))
      xi_BadEffort := by
        rw [ca_BadEffort]
        exact isx_mk hca rfl xC (kit_tab (tab := (xvt aPaidError aBadProgram aBadCore aBadName aBadRow aBadKind aBadArgs aBadLimit aBadLog aBadVariable aBadPlacing aBadSteps aBadMeasures aBadNumber aBadBook aBadIndex aBadNever aBadGoal aBadHints aBadShowings aBadNeeds aBadRatio aZeroBottom aBadSystem aBadLine aBadTemplate aBadPoint aBadAmounts aBadLevels aNoCells aNotNew aTooGreat aBadEffort aBadImage aUnfit aBadText aNotChecked aNotRight aNotLet aBadListing aRefused)) (C := aBadEffort) (f := fun k => decide (("BadEffort" : Str) ∈ (xva.lookup k).getD [])) (T := "BadEffort") ed_BadEffort et_BadEffort sT_BadEffort (by simp [xvt]) (by decide +kernel))
      xi_BadGoal := by
        rw [ca_BadGoal]
        exact isx_mk hca rfl xC (kit_tab (tab := (xvt aPaidError aBadProgram aBadCore aBadName aBadRow aBadKind aBadArgs aBadLimit aBadLog aBadVariable aBadPlacing aBadSteps aBadMeasures aBadNumber aBadBook aBadIndex aBadNever aBadGoal aBadHints aBadShowings aBadNeeds aBadRatio aZeroBottom aBadSystem aBadLine aBadTemplate aBadPoint aBadAmounts aBadLevels aNoCells aNotNew aTooGreat aBadEffort aBadImage aUnfit aBadText aNotChecked aNotRight aNotLet aBadListing aRefused)) (C := aBadGoal) (f := fun k => decide (("BadGoal" : Str) ∈ (xva.lookup k).getD [])) (T := "BadGoal") ed_BadGoal et_BadGoal sT_BadGoal (by simp [xvt]) (by decide +kernel))
      xi_BadHints := by
        rw [ca_BadHints]
        exact isx_mk hca rfl xC (kit_tab (tab := (xvt aPaidError aBadProgram aBadCore aBadName aBadRow aBadKind aBadArgs aBadLimit aBadLog aBadVariable aBadPlacing aBadSteps aBadMeasures aBadNumber aBadBook aBadIndex aBadNever aBadGoal aBadHints aBadShowings aBadNeeds aBadRatio aZeroBottom aBadSystem aBadLine aBadTemplate aBadPoint aBadAmounts aBadLevels aNoCells aNotNew aTooGreat aBadEffort aBadImage aUnfit aBadText aNotChecked aNotRight aNotLet aBadListing aRefused)) (C := aBadHints) (f := fun k => decide (("BadHints" : Str) ∈ (xva.lookup k).getD [])) (T := "BadHints") ed_BadHints et_BadHints sT_BadHints (by simp [xvt]) (by decide +kernel))
      xi_BadImage := by
        rw [ca_BadImage]
        exact isx_mk hca rfl xC (kit_tab (tab := (xvt aPaidError aBadProgram aBadCore aBadName aBadRow aBadKind aBadArgs aBadLimit aBadLog aBadVariable aBadPlacing aBadSteps aBadMeasures aBadNumber aBadBook aBadIndex aBadNever aBadGoal aBadHints aBadShowings aBadNeeds aBadRatio aZeroBottom aBadSystem aBadLine aBadTemplate aBadPoint aBadAmounts aBadLevels aNoCells aNotNew aTooGreat aBadEffort aBadImage aUnfit aBadText aNotChecked aNotRight aNotLet aBadListing aRefused)) (C := aBadImage) (f := fun k => decide (("BadImage" : Str) ∈ (xva.lookup k).getD [])) (T := "BadImage") ed_BadImage et_BadImage sT_BadImage (by simp [xvt]) (by decide +kernel))
      xi_BadIndex := by
        rw [ca_BadIndex]
        exact isx_mk hca rfl xC (kit_tab (tab := (xvt aPaidError aBadProgram aBadCore aBadName aBadRow aBadKind aBadArgs aBadLimit aBadLog aBadVariable aBadPlacing aBadSteps aBadMeasures aBadNumber aBadBook aBadIndex aBadNever aBadGoal aBadHints aBadShowings aBadNeeds aBadRatio aZeroBottom aBadSystem aBadLine aBadTemplate aBadPoint aBadAmounts aBadLevels aNoCells aNotNew aTooGreat aBadEffort aBadImage aUnfit aBadText aNotChecked aNotRight aNotLet aBadListing aRefused)) (C := aBadIndex) (f := fun k => decide (("BadIndex" : Str) ∈ (xva.lookup k).getD [])) (T := "BadIndex") ed_BadIndex et_BadIndex sT_BadIndex (by simp [xvt]) (by decide +kernel))
      xi_BadKind := by
        rw [ca_BadKind]
        exact isx_mk hca rfl xC (kit_tab (tab := (xvt aPaidError aBadProgram aBadCore aBadName aBadRow aBadKind aBadArgs aBadLimit aBadLog aBadVariable aBadPlacing aBadSteps aBadMeasures aBadNumber aBadBook aBadIndex aBadNever aBadGoal aBadHints aBadShowings aBadNeeds aBadRatio aZeroBottom aBadSystem aBadLine aBadTemplate aBadPoint aBadAmounts aBadLevels aNoCells aNotNew aTooGreat aBadEffort aBadImage aUnfit aBadText aNotChecked aNotRight aNotLet aBadListing aRefused)) (C := aBadKind) (f := fun k => decide (("BadKind" : Str) ∈ (xva.lookup k).getD [])) (T := "BadKind") ed_BadKind et_BadKind sT_BadKind (by simp [xvt]) (by decide +kernel))
      xi_BadLevels := by
        rw [ca_BadLevels]
        exact isx_mk hca rfl xC (kit_tab (tab := (xvt aPaidError aBadProgram aBadCore aBadName aBadRow aBadKind aBadArgs aBadLimit aBadLog aBadVariable aBadPlacing aBadSteps aBadMeasures aBadNumber aBadBook aBadIndex aBadNever aBadGoal aBadHints aBadShowings aBadNeeds aBadRatio aZeroBottom aBadSystem aBadLine aBadTemplate aBadPoint aBadAmounts aBadLevels aNoCells aNotNew aTooGreat aBadEffort aBadImage aUnfit aBadText aNotChecked aNotRight aNotLet aBadListing aRefused)) (C := aBadLevels) (f := fun k => decide (("BadLevels" : Str) ∈ (xva.lookup k).getD [])) (T := "BadLevels") ed_BadLevels et_BadLevels sT_BadLevels (by simp [xvt]) (by decide +kernel))
      xi_BadLimit := by
        rw [ca_BadLimit]
        exact isx_mk hca rfl xC (kit_tab (tab := (xvt aPaidError aBadProgram aBadCore aBadName aBadRow aBadKind aBadArgs aBadLimit aBadLog aBadVariable aBadPlacing aBadSteps aBadMeasures aBadNumber aBadBook aBadIndex aBadNever aBadGoal aBadHints aBadShowings aBadNeeds aBadRatio aZeroBottom aBadSystem aBadLine aBadTemplate aBadPoint aBadAmounts aBadLevels aNoCells aNotNew aTooGreat aBadEffort aBadImage aUnfit aBadText aNotChecked aNotRight aNotLet aBadListing aRefused)) (C := aBadLimit) (f := fun k => decide (("BadLimit" : Str) ∈ (xva.lookup k).getD [])) (T := "BadLimit") ed_BadLimit et_BadLimit sT_BadLimit (by simp [xvt]) (by decide +kernel))
      xi_BadLine := by
        rw [ca_BadLine]
        exact isx_mk hca rfl xC (kit_tab (tab := (xvt aPaidError aBadProgram aBadCore aBadName aBadRow aBadKind aBadArgs aBadLimit aBadLog aBadVariable aBadPlacing aBadSteps aBadMeasures aBadNumber aBadBook aBadIndex aBadNever aBadGoal aBadHints aBadShowings aBadNeeds aBadRatio aZeroBottom aBadSystem aBadLine aBadTemplate aBadPoint aBadAmounts aBadLevels aNoCells aNotNew aTooGreat aBadEffort aBadImage aUnfit aBadText aNotChecked aNotRight aNotLet aBadListing aRefused)) (C := aBadLine) (f := fun k => decide (("BadLine" : Str) ∈ (xva.lookup k).getD [])) (T := "BadLine") ed_BadLine et_BadLine sT_BadLine (by simp [xvt]) (by decide +kernel))
      xi_BadLog := by
        rw [ca_BadLog]
        exact isx_mk hca rfl xC (kit_tab (tab := (xvt aPaidError aBadProgram aBadCore aBadName aBadRow aBadKind aBadArgs aBadLimit aBadLog aBadVariable aBadPlacing aBadSteps aBadMeasures aBadNumber aBadBook aBadIndex aBadNever aBadGoal aBadHints aBadShowings aBadNeeds aBadRatio aZeroBottom aBadSystem aBadLine aBadTemplate aBadPoint aBadAmounts aBadLevels aNoCells aNotNew aTooGreat aBadEffort aBadImage aUnfit aBadText aNotChecked aNotRight aNotLet aBadListing aRefused)) (C := aBadLog) (f := fun k => decide (("BadLog" : Str) ∈ (xva.lookup k).getD [])) (T := "BadLog") ed_BadLog et_BadLog sT_BadLog (by simp [xvt]) (by decide +kernel))
      xi_BadMeasures := by
        rw [ca_BadMeasures]
        exact isx_mk hca rfl xC (kit_tab (tab := (xvt aPaidError aBadProgram aBadCore aBadName aBadRow aBadKind aBadArgs aBadLimit aBadLog aBadVariable aBadPlacing aBadSteps aBadMeasures aBadNumber aBadBook aBadIndex aBadNever aBadGoal aBadHints aBadShowings aBadNeeds aBadRatio aZeroBottom aBadSystem aBadLine aBadTemplate aBadPoint aBadAmounts aBadLevels aNoCells aNotNew aTooGreat aBadEffort aBadImage aUnfit aBadText aNotChecked aNotRight aNotLet aBadListing aRefused)) (C := aBadMeasures) (f := fun k => decide (("BadMeasures" : Str) ∈ (xva.lookup k).getD [])) (T := "BadMeasures") ed_BadMeasures et_BadMeasures sT_BadMeasures (by simp [xvt]) (by decide +kernel))
      xi_BadName := by
        rw [ca_BadName]
        exact isx_mk hca rfl xC (kit_tab (tab := (xvt aPaidError aBadProgram aBadCore aBadName aBadRow aBadKind aBadArgs aBadLimit aBadLog aBadVariable aBadPlacing aBadSteps aBadMeasures aBadNumber aBadBook aBadIndex aBadNever aBadGoal aBadHints aBadShowings aBadNeeds aBadRatio aZeroBottom aBadSystem aBadLine aBadTemplate aBadPoint aBadAmounts aBadLevels aNoCells aNotNew aTooGreat aBadEffort aBadImage aUnfit aBadText aNotChecked aNotRight aNotLet aBadListing aRefused)) (C := aBadName) (f := fun k => decide (("BadName" : Str) ∈ (xva.lookup k).getD [])) (T := "BadName") ed_BadName et_BadName sT_BadName (by simp [xvt]) (by decide +kernel))
      xi_BadNeeds := by
        rw [ca_BadNeeds]
        exact isx_mk hca rfl xC (kit_tab (tab := (xvt aPaidError aBadProgram aBadCore aBadName aBadRow aBadKind aBadArgs aBadLimit aBadLog aBadVariable aBadPlacing aBadSteps aBadMeasures aBadNumber aBadBook aBadIndex aBadNever aBadGoal aBadHints aBadShowings aBadNeeds aBadRatio aZeroBottom aBadSystem aBadLine aBadTemplate aBadPoint aBadAmounts aBadLevels aNoCells aNotNew aTooGreat aBadEffort aBadImage aUnfit aBadText aNotChecked aNotRight aNotLet aBadListing aRefused)) (C := aBadNeeds) (f := fun k => decide (("BadNeeds" : Str) ∈ (xva.lookup k).getD [])) (T := "BadNeeds") ed_BadNeeds et_BadNeeds sT_BadNeeds (by simp [xvt]) (by decide +kernel))
      xi_BadNever := by
        rw [ca_BadNever]
        exact isx_mk hca rfl xC (kit_tab (tab := (xvt aPaidError aBadProgram aBadCore aBadName aBadRow aBadKind aBadArgs aBadLimit aBadLog aBadVariable aBadPlacing aBadSteps aBadMeasures aBadNumber aBadBook aBadIndex aBadNever aBadGoal aBadHints aBadShowings aBadNeeds aBadRatio aZeroBottom aBadSystem aBadLine aBadTemplate aBadPoint aBadAmounts aBadLevels aNoCells aNotNew aTooGreat aBadEffort aBadImage aUnfit aBadText aNotChecked aNotRight aNotLet aBadListing aRefused)) (C := aBadNever) (f := fun k => decide (("BadNever" : Str) ∈ (xva.lookup k).getD [])) (T := "BadNever") ed_BadNever et_BadNever sT_BadNever (by simp [xvt]) (by decide +kernel))
      xi_BadNumber := by
        rw [ca_BadNumber]
        exact isx_mk hca rfl xC (kit_tab (tab := (xvt aPaidError aBadProgram aBadCore aBadName aBadRow aBadKind aBadArgs aBadLimit aBadLog aBadVariable aBadPlacing aBadSteps aBadMeasures aBadNumber aBadBook aBadIndex aBadNever aBadGoal aBadHints aBadShowings aBadNeeds aBadRatio aZeroBottom aBadSystem aBadLine aBadTemplate aBadPoint aBadAmounts aBadLevels aNoCells aNotNew aTooGreat aBadEffort aBadImage aUnfit aBadText aNotChecked aNotRight aNotLet aBadListing aRefused)) (C := aBadNumber) (f := fun k => decide (("BadNumber" : Str) ∈ (xva.lookup k).getD [])) (T := "BadNumber") ed_BadNumber et_BadNumber sT_BadNumber (by simp [xvt]) (by decide +kernel))
      xi_BadPlacing := by
        rw [ca_BadPlacing]
        exact isx_mk hca rfl xC (kit_tab (tab := (xvt aPaidError aBadProgram aBadCore aBadName aBadRow aBadKind aBadArgs aBadLimit aBadLog aBadVariable aBadPlacing aBadSteps aBadMeasures aBadNumber aBadBook aBadIndex aBadNever aBadGoal aBadHints aBadShowings aBadNeeds aBadRatio aZeroBottom aBadSystem aBadLine aBadTemplate aBadPoint aBadAmounts aBadLevels aNoCells aNotNew aTooGreat aBadEffort aBadImage aUnfit aBadText aNotChecked aNotRight aNotLet aBadListing aRefused)) (C := aBadPlacing) (f := fun k => decide (("BadPlacing" : Str) ∈ (xva.lookup k).getD [])) (T := "BadPlacing") ed_BadPlacing et_BadPlacing sT_BadPlacing (by simp [xvt]) (by decide +kernel))
      xi_BadPoint := by
        rw [ca_BadPoint]
        exact isx_mk hca rfl xC (kit_tab (tab := (xvt aPaidError aBadProgram aBadCore aBadName aBadRow aBadKind aBadArgs aBadLimit aBadLog aBadVariable aBadPlacing aBadSteps aBadMeasures aBadNumber aBadBook aBadIndex aBadNever aBadGoal aBadHints aBadShowings aBadNeeds aBadRatio aZeroBottom aBadSystem aBadLine aBadTemplate aBadPoint aBadAmounts aBadLevels aNoCells aNotNew aTooGreat aBadEffort aBadImage aUnfit aBadText aNotChecked aNotRight aNotLet aBadListing aRefused)) (C := aBadPoint) (f := fun k => decide (("BadPoint" : Str) ∈ (xva.lookup k).getD [])) (T := "BadPoint") ed_BadPoint et_BadPoint sT_BadPoint (by simp [xvt]) (by decide +kernel))
      xi_BadProgram := by
        rw [ca_BadProgram]
        exact isx_mk hca rfl xC (kit_tab (tab := (xvt aPaidError aBadProgram aBadCore aBadName aBadRow aBadKind aBadArgs aBadLimit aBadLog aBadVariable aBadPlacing aBadSteps aBadMeasures aBadNumber aBadBook aBadIndex aBadNever aBadGoal aBadHints aBadShowings aBadNeeds aBadRatio aZeroBottom aBadSystem aBadLine aBadTemplate aBadPoint aBadAmounts aBadLevels aNoCells aNotNew aTooGreat aBadEffort aBadImage aUnfit aBadText aNotChecked aNotRight aNotLet aBadListing aRefused)) (C := aBadProgram) (f := fun k => decide (("BadProgram" : Str) ∈ (xva.lookup k).getD [])) (T := "BadProgram") ed_BadProgram et_BadProgram sT_BadProgram (by simp [xvt]) (by decide +kernel))
      xi_BadRatio := by
        rw [ca_BadRatio]
        exact isx_mk hca rfl xC (kit_tab (tab := (xvt aPaidError aBadProgram aBadCore aBadName aBadRow aBadKind aBadArgs aBadLimit aBadLog aBadVariable aBadPlacing aBadSteps aBadMeasures aBadNumber aBadBook aBadIndex aBadNever aBadGoal aBadHints aBadShowings aBadNeeds aBadRatio aZeroBottom aBadSystem aBadLine aBadTemplate aBadPoint aBadAmounts aBadLevels aNoCells aNotNew aTooGreat aBadEffort aBadImage aUnfit aBadText aNotChecked aNotRight aNotLet aBadListing aRefused)) (C := aBadRatio) (f := fun k => decide (("BadRatio" : Str) ∈ (xva.lookup k).getD [])) (T := "BadRatio") ed_BadRatio et_BadRatio sT_BadRatio (by simp [xvt]) (by decide +kernel))
      xi_BadRow := by
        rw [ca_BadRow]
        exact isx_mk hca rfl xC (kit_tab (tab := (xvt aPaidError aBadProgram aBadCore aBadName aBadRow aBadKind aBadArgs aBadLimit aBadLog aBadVariable aBadPlacing aBadSteps aBadMeasures aBadNumber aBadBook aBadIndex aBadNever aBadGoal aBadHints aBadShowings aBadNeeds aBadRatio aZeroBottom aBadSystem aBadLine aBadTemplate aBadPoint aBadAmounts aBadLevels aNoCells aNotNew aTooGreat aBadEffort aBadImage aUnfit aBadText aNotChecked aNotRight aNotLet aBadListing aRefused)) (C := aBadRow) (f := fun k => decide (("BadRow" : Str) ∈ (xva.lookup k).getD [])) (T := "BadRow") ed_BadRow et_BadRow sT_BadRow (by simp [xvt]) (by decide +kernel))
      xi_BadShowings := by
        rw [ca_BadShowings]
        exact isx_mk hca rfl xC (kit_tab (tab := (xvt aPaidError aBadProgram aBadCore aBadName aBadRow aBadKind aBadArgs aBadLimit aBadLog aBadVariable aBadPlacing aBadSteps aBadMeasures aBadNumber aBadBook aBadIndex aBadNever aBadGoal aBadHints aBadShowings aBadNeeds aBadRatio aZeroBottom aBadSystem aBadLine aBadTemplate aBadPoint aBadAmounts aBadLevels aNoCells aNotNew aTooGreat aBadEffort aBadImage aUnfit aBadText aNotChecked aNotRight aNotLet aBadListing aRefused)) (C := aBadShowings) (f := fun k => decide (("BadShowings" : Str) ∈ (xva.lookup k).getD [])) (T := "BadShowings") ed_BadShowings et_BadShowings sT_BadShowings (by simp [xvt]) (by decide +kernel))
      xi_BadSteps := by
        rw [ca_BadSteps]
        exact isx_mk hca rfl xC (kit_tab (tab := (xvt aPaidError aBadProgram aBadCore aBadName aBadRow aBadKind aBadArgs aBadLimit aBadLog aBadVariable aBadPlacing aBadSteps aBadMeasures aBadNumber aBadBook aBadIndex aBadNever aBadGoal aBadHints aBadShowings aBadNeeds aBadRatio aZeroBottom aBadSystem aBadLine aBadTemplate aBadPoint aBadAmounts aBadLevels aNoCells aNotNew aTooGreat aBadEffort aBadImage aUnfit aBadText aNotChecked aNotRight aNotLet aBadListing aRefused)) (C := aBadSteps) (f := fun k => decide (("BadSteps" : Str) ∈ (xva.lookup k).getD [])) (T := "BadSteps") ed_BadSteps et_BadSteps sT_BadSteps (by simp [xvt]) (by decide +kernel))
      xi_BadSystem := by
        rw [ca_BadSystem]
        exact isx_mk hca rfl xC (kit_tab (tab := (xvt aPaidError aBadProgram aBadCore aBadName aBadRow aBadKind aBadArgs aBadLimit aBadLog aBadVariable aBadPlacing aBadSteps aBadMeasures aBadNumber aBadBook aBadIndex aBadNever aBadGoal aBadHints aBadShowings aBadNeeds aBadRatio aZeroBottom aBadSystem aBadLine aBadTemplate aBadPoint aBadAmounts aBadLevels aNoCells aNotNew aTooGreat aBadEffort aBadImage aUnfit aBadText aNotChecked aNotRight aNotLet aBadListing aRefused)) (C := aBadSystem) (f := fun k => decide (("BadSystem" : Str) ∈ (xva.lookup k).getD [])) (T := "BadSystem") ed_BadSystem et_BadSystem sT_BadSystem (by simp [xvt]) (by decide +kernel))
      xi_BadTemplate := by
        rw [ca_BadTemplate]
        exact isx_mk hca rfl xC (kit_tab (tab := (xvt aPaidError aBadProgram aBadCore aBadName aBadRow aBadKind aBadArgs aBadLimit aBadLog aBadVariable aBadPlacing aBadSteps aBadMeasures aBadNumber aBadBook aBadIndex aBadNever aBadGoal aBadHints aBadShowings aBadNeeds aBadRatio aZeroBottom aBadSystem aBadLine aBadTemplate aBadPoint aBadAmounts aBadLevels aNoCells aNotNew aTooGreat aBadEffort aBadImage aUnfit aBadText aNotChecked aNotRight aNotLet aBadListing aRefused)) (C := aBadTemplate) (f := fun k => decide (("BadTemplate" : Str) ∈ (xva.lookup k).getD [])) (T := "BadTemplate") ed_BadTemplate et_BadTemplate sT_BadTemplate (by simp [xvt]) (by decide +kernel))
      xi_BadVariable := by
        rw [ca_BadVariable]
        exact isx_mk hca rfl xC (kit_tab (tab := (xvt aPaidError aBadProgram aBadCore aBadName aBadRow aBadKind aBadArgs aBadLimit aBadLog aBadVariable aBadPlacing aBadSteps aBadMeasures aBadNumber aBadBook aBadIndex aBadNever aBadGoal aBadHints aBadShowings aBadNeeds aBadRatio aZeroBottom aBadSystem aBadLine aBadTemplate aBadPoint aBadAmounts aBadLevels aNoCells aNotNew aTooGreat aBadEffort aBadImage aUnfit aBadText aNotChecked aNotRight aNotLet aBadListing aRefused)) (C := aBadVariable) (f := fun k => decide (("BadVariable" : Str) ∈ (xva.lookup k).getD [])) (T := "BadVariable") ed_BadVariable et_BadVariable sT_BadVariable (by simp [xvt]) (by decide +kernel))
      xi_NoCells := by
        rw [ca_NoCells]
        exact isx_mk hca rfl xC (kit_tab (tab := (xvt aPaidError aBadProgram aBadCore aBadName aBadRow aBadKind aBadArgs aBadLimit aBadLog aBadVariable aBadPlacing aBadSteps aBadMeasures aBadNumber aBadBook aBadIndex aBadNever aBadGoal aBadHints aBadShowings aBadNeeds aBadRatio aZeroBottom aBadSystem aBadLine aBadTemplate aBadPoint aBadAmounts aBadLevels aNoCells aNotNew aTooGreat aBadEffort aBadImage aUnfit aBadText aNotChecked aNotRight aNotLet aBadListing aRefused)) (C := aNoCells) (f := fun k => decide (("NoCells" : Str) ∈ (xva.lookup k).getD [])) (T := "NoCells") ed_NoCells et_NoCells sT_NoCells (by simp [xvt]) (by decide +kernel))
      xi_NotNew := by
        rw [ca_NotNew]
        exact isx_mk hca rfl xC (kit_tab (tab := (xvt aPaidError aBadProgram aBadCore aBadName aBadRow aBadKind aBadArgs aBadLimit aBadLog aBadVariable aBadPlacing aBadSteps aBadMeasures aBadNumber aBadBook aBadIndex aBadNever aBadGoal aBadHints aBadShowings aBadNeeds aBadRatio aZeroBottom aBadSystem aBadLine aBadTemplate aBadPoint aBadAmounts aBadLevels aNoCells aNotNew aTooGreat aBadEffort aBadImage aUnfit aBadText aNotChecked aNotRight aNotLet aBadListing aRefused)) (C := aNotNew) (f := fun k => decide (("NotNew" : Str) ∈ (xva.lookup k).getD [])) (T := "NotNew") ed_NotNew et_NotNew sT_NotNew (by simp [xvt]) (by decide +kernel))
      xi_TooGreat := by
        rw [ca_TooGreat]
        exact isx_mk hca rfl xC (kit_tab (tab := (xvt aPaidError aBadProgram aBadCore aBadName aBadRow aBadKind aBadArgs aBadLimit aBadLog aBadVariable aBadPlacing aBadSteps aBadMeasures aBadNumber aBadBook aBadIndex aBadNever aBadGoal aBadHints aBadShowings aBadNeeds aBadRatio aZeroBottom aBadSystem aBadLine aBadTemplate aBadPoint aBadAmounts aBadLevels aNoCells aNotNew aTooGreat aBadEffort aBadImage aUnfit aBadText aNotChecked aNotRight aNotLet aBadListing aRefused)) (C := aTooGreat) (f := fun k => decide (("TooGreat" : Str) ∈ (xva.lookup k).getD [])) (T := "TooGreat") ed_TooGreat et_TooGreat sT_TooGreat (by simp [xvt]) (by decide +kernel))
      xi_Unfit := by
        rw [ca_Unfit]
        exact isx_mk hca rfl xC (kit_tab (tab := (xvt aPaidError aBadProgram aBadCore aBadName aBadRow aBadKind aBadArgs aBadLimit aBadLog aBadVariable aBadPlacing aBadSteps aBadMeasures aBadNumber aBadBook aBadIndex aBadNever aBadGoal aBadHints aBadShowings aBadNeeds aBadRatio aZeroBottom aBadSystem aBadLine aBadTemplate aBadPoint aBadAmounts aBadLevels aNoCells aNotNew aTooGreat aBadEffort aBadImage aUnfit aBadText aNotChecked aNotRight aNotLet aBadListing aRefused)) (C := aUnfit) (f := fun k => decide (("Unfit" : Str) ∈ (xva.lookup k).getD [])) (T := "Unfit") ed_Unfit et_Unfit sT_Unfit (by simp [xvt]) (by decide +kernel))
      xi_ZeroBottom := by
        rw [ca_ZeroBottom]
        exact isx_mk hca rfl xC (kit_tab (tab := (xvt aPaidError aBadProgram aBadCore aBadName aBadRow aBadKind aBadArgs aBadLimit aBadLog aBadVariable aBadPlacing aBadSteps aBadMeasures aBadNumber aBadBook aBadIndex aBadNever aBadGoal aBadHints aBadShowings aBadNeeds aBadRatio aZeroBottom aBadSystem aBadLine aBadTemplate aBadPoint aBadAmounts aBadLevels aNoCells aNotNew aTooGreat aBadEffort aBadImage aUnfit aBadText aNotChecked aNotRight aNotLet aBadListing aRefused)) (C := aZeroBottom) (f := fun k => decide (("ZeroBottom" : Str) ∈ (xva.lookup k).getD [])) (T := "ZeroBottom") ed_ZeroBottom et_ZeroBottom sT_ZeroBottom (by simp [xvt]) (by decide +kernel))
      xi_PaidError := by
        rw [ca_PaidError]
        exact isx_mk hca rfl xC (kit_tab (tab := (xvt aPaidError aBadProgram aBadCore aBadName aBadRow aBadKind aBadArgs aBadLimit aBadLog aBadVariable aBadPlacing aBadSteps aBadMeasures aBadNumber aBadBook aBadIndex aBadNever aBadGoal aBadHints aBadShowings aBadNeeds aBadRatio aZeroBottom aBadSystem aBadLine aBadTemplate aBadPoint aBadAmounts aBadLevels aNoCells aNotNew aTooGreat aBadEffort aBadImage aUnfit aBadText aNotChecked aNotRight aNotLet aBadListing aRefused)) (C := aPaidError) (f := fun k => decide (("PaidError" : Str) ∈ (xva.lookup k).getD [])) (T := "PaidError") ed_PaidError et_PaidError sT_PaidError (by simp [xvt]) (by decide +kernel))
      xi_ValueError := isx_mk hca rfl xC (kit_tabT (tab := (xvt aPaidError aBadProgram aBadCore aBadName aBadRow aBadKind aBadArgs aBadLimit aBadLog aBadVariable aBadPlacing aBadSteps aBadMeasures aBadNumber aBadBook aBadIndex aBadNever aBadGoal aBadHints aBadShowings aBadNeeds aBadRatio aZeroBottom aBadSystem aBadLine aBadTemplate aBadPoint aBadAmounts aBadLevels aNoCells aNotNew aTooGreat aBadEffort aBadImage aUnfit aBadText aNotChecked aNotRight aNotLet aBadListing aRefused)) (f := fun k => decide (("ValueError" : Str) ∈ (xva.lookup k).getD [])) (T := "ValueError") (by decide +kernel) sT_ValueError)
      xr_place := by
        intro c hc
        simp only [List.mem_cons, List.not_mem_nil, or_false] at hc
        rcases hc with rfl
        · rw [ca_BadText]; exact ⟨L2.xfB_ok xe_place_BadText, xz_xBadText_place⟩
      xr_what := by
        intro c hc
        simp only [List.mem_cons, List.not_mem_nil, or_false] at hc
        rcases hc with rfl | rfl
        · rw [ca_NotChecked]; exact ⟨L2.xfB_ok xe_what_NotChecked, xz_xNotChecked_what⟩
        · rw [ca_NotRight]; exact ⟨L2.xfB_ok xe_what_NotRight, xz_xNotRight_what⟩
      xr_index := by
        intro c hc
        simp only [List.mem_cons, List.not_mem_nil, or_false] at hc
        rcases hc with rfl
        · rw [ca_NotLet]; exact ⟨L2.xfB_ok xe_index_NotLet, xz_xNotLet_index⟩
      xr_line := by
        intro c hc
        simp only [List.mem_cons, List.not_mem_nil, or_false] at hc
        rcases hc with rfl
        · rw [ca_BadListing]; exact ⟨L2.xfB_ok xe_line_BadListing, xz_xBadListing_line⟩
      xr_name := by
        intro c hc
        simp only [List.mem_cons, List.not_mem_nil, or_false] at hc
        rcases hc with rfl
        · rw [ca_Refused]; exact ⟨L2.xfB_ok xe_name_Refused, xz_xRefused_name⟩
      xr_row := by
        intro c hc
        simp only [List.mem_cons, List.not_mem_nil, or_false] at hc
        rcases hc with rfl
        · rw [ca_Refused]; exact ⟨L2.xfB_ok xe_row_Refused, xz_xRefused_row⟩
      xr_address := by
        intro c hc
        simp only [List.mem_cons, List.not_mem_nil, or_false] at hc
        rcases hc with rfl
        · rw [ca_Refused]; exact ⟨L2.xfB_ok xe_address_Refused, xz_xRefused_address⟩ }
  have T : Tx l.prog w K mg ca := {
      md := M
      d__law_bag := defI_mk X G a__law_bag l__law_bag c__law_bag k__law_bag (fun _ _ _ _ _ _ us hl => match us, hl with | [_], _ => rfl) (by intro _ _ _ _ _ _ p hp; simp at hp)
      d__law_pick := defI_mk X G a__law_pick l__law_pick c__law_pick k__law_pick (fun _ _ _ _ _ _ us hl => match us, hl with | [_, _], _ => rfl) (by intro _ _ _ _ _ _ p hp; simp at hp)
      d__law_word := defI_mk X G a__law_word l__law_word c__law_word k__law_word (fun _ _ _ _ _ _ us hl => match us, hl with | [_, _, _], _ => rfl) (by intro _ _ _ _ _ _ p hp; simp at hp)
      d__law_same := defI_mk X G a__law_same l__law_same c__law_same k__law_same (fun _ _ _ _ _ _ us hl => match us, hl with | [_, _], _ => rfl) (by intro _ _ _ _ _ _ p hp; simp at hp)
      d__law_marks := defI_mk X G a__law_marks l__law_marks c__law_marks k__law_marks (fun _ _ _ _ _ _ us hl => match us, hl with | [_], _ => rfl) (by intro _ _ _ _ _ _ p hp; simp at hp)
      d__law_made := defI_mk X G a__law_made l__law_made c__law_made k__law_made (fun _ _ _ _ _ _ us hl => match us, hl with | [_, _, _, _, _], _ => rfl) (by intro _ _ _ _ _ _ p hp; simp at hp)
      d_law := defI_mk X G a_law l_law c_law k_law (fun _ _ _ _ _ _ us hl => match us, hl with | [_], _ => rfl) (by intro _ _ _ _ _ _ p hp; simp at hp) }
  exact ⟨_, fun s v => .of_eq rfl, fun base _ _ => (law_ok T (fun_mk (st := s_law) l_law c_law k_law)).imp (law_sp (law_true ca))⟩
end K00
open PySem PySem.W PyProof.Rows
set_option maxRecDepth 100000 in
set_option maxHeartbeats 0 in
theorem PySem.Challenge.cw_cellcode_k00_errors_holds : PySem.Challenge.rw_cellcode_k00_errors.Holds := by
  w_on; o_law; k_head; (case hw => w_witness2)
  k_fill
  refine PI.walkM (l := PySem.Challenge.rw_cellcode_k00_errors) (k := 200) rfl rfl ⟨rfl, by decide, by decide⟩ (fun w h Y => PySem.W.kIn_of Y) ?F
  case F =>
    intro w mg fa h KX G hmg
    refine' K00.all_mk KX G hmg ?z_ValueError ?z_abs ?z_bool ?z_int ?z_isinstance ?z_len ?z_list ?z_range ?z_str ?z_tuple ?xcB ?xn ?xt ?ea_PaidError ?ek_PaidError ?et_PaidError ?ed_PaidError ?ex_PaidError ?eb_PaidError ?ei_PaidError ?ea_BadProgram ?ek_BadProgram ?et_BadProgram ?ed_BadProgram ?ex_BadProgram ?eb_BadProgram ?ei_BadProgram ?ea_BadCore ?ek_BadCore ?et_BadCore ?ed_BadCore ?ex_BadCore ?eb_BadCore ?ei_BadCore ?ea_BadName ?ek_BadName ?et_BadName ?ed_BadName ?ex_BadName ?eb_BadName ?ei_BadName ?ea_BadRow ?ek_BadRow ?et_BadRow ?ed_BadRow ?ex_BadRow ?eb_BadRow ?ei_BadRow ?ea_BadKind ?ek_BadKind ?et_BadKind ?ed_BadKind ?ex_BadKind ?eb_BadKind ?ei_BadKind ?ea_BadArgs ?ek_BadArgs ?et_BadArgs ?ed_BadArgs ?ex_BadArgs ?eb_BadArgs ?ei_BadArgs ?ea_BadLimit ?ek_BadLimit ?et_BadLimit ?ed_BadLimit ?ex_BadLimit ?eb_BadLimit ?ei_BadLimit ?ea_BadLog ?ek_BadLog ?et_BadLog ?ed_BadLog ?ex_BadLog ?eb_BadLog ?ei_BadLog ?ea_BadVariable ?ek_BadVariable ?et_BadVariable ?ed_BadVariable ?ex_BadVariable ?eb_BadVariable ?ei_BadVariable ?ea_BadPlacing ?ek_BadPlacing ?et_BadPlacing ?ed_BadPlacing ?ex_BadPlacing ?eb_BadPlacing ?ei_BadPlacing ?ea_BadSteps ?ek_BadSteps ?et_BadSteps ?ed_BadSteps ?ex_BadSteps ?eb_BadSteps ?ei_BadSteps ?ea_BadMeasures ?ek_BadMeasures ?et_BadMeasures ?ed_BadMeasures ?ex_BadMeasures ?eb_BadMeasures ?ei_BadMeasures ?ea_BadNumber ?ek_BadNumber ?et_BadNumber ?ed_BadNumber ?ex_BadNumber ?eb_BadNumber ?ei_BadNumber ?ea_BadBook ?ek_BadBook ?et_BadBook ?ed_BadBook ?ex_BadBook ?eb_BadBook ?ei_BadBook ?ea_BadIndex ?ek_BadIndex ?et_BadIndex ?ed_BadIndex ?ex_BadIndex ?eb_BadIndex ?ei_BadIndex ?ea_BadNever ?ek_BadNever ?et_BadNever ?ed_BadNever ?ex_BadNever ?eb_BadNever ?ei_BadNever ?ea_BadGoal ?ek_BadGoal ?et_BadGoal ?ed_BadGoal ?ex_BadGoal ?eb_BadGoal ?ei_BadGoal ?ea_BadHints ?ek_BadHints ?et_BadHints ?ed_BadHints ?ex_BadHints ?eb_BadHints ?ei_BadHints ?ea_BadShowings ?ek_BadShowings ?et_BadShowings ?ed_BadShowings ?ex_BadShowings ?eb_BadShowings ?ei_BadShowings ?ea_BadNeeds ?ek_BadNeeds ?et_BadNeeds ?ed_BadNeeds ?ex_BadNeeds ?eb_BadNeeds ?ei_BadNeeds ?ea_BadRatio ?ek_BadRatio ?et_BadRatio ?ed_BadRatio ?ex_BadRatio ?eb_BadRatio ?ei_BadRatio ?ea_ZeroBottom ?ek_ZeroBottom ?et_ZeroBottom ?ed_ZeroBottom ?ex_ZeroBottom ?eb_ZeroBottom ?ei_ZeroBottom ?ea_BadSystem ?ek_BadSystem ?et_BadSystem ?ed_BadSystem ?ex_BadSystem ?eb_BadSystem ?ei_BadSystem ?ea_BadLine ?ek_BadLine ?et_BadLine ?ed_BadLine ?ex_BadLine ?eb_BadLine ?ei_BadLine ?ea_BadTemplate ?ek_BadTemplate ?et_BadTemplate ?ed_BadTemplate ?ex_BadTemplate ?eb_BadTemplate ?ei_BadTemplate ?ea_BadPoint ?ek_BadPoint ?et_BadPoint ?ed_BadPoint ?ex_BadPoint ?eb_BadPoint ?ei_BadPoint ?ea_BadAmounts ?ek_BadAmounts ?et_BadAmounts ?ed_BadAmounts ?ex_BadAmounts ?eb_BadAmounts ?ei_BadAmounts ?ea_BadLevels ?ek_BadLevels ?et_BadLevels ?ed_BadLevels ?ex_BadLevels ?eb_BadLevels ?ei_BadLevels ?ea_NoCells ?ek_NoCells ?et_NoCells ?ed_NoCells ?ex_NoCells ?eb_NoCells ?ei_NoCells ?ea_NotNew ?ek_NotNew ?et_NotNew ?ed_NotNew ?ex_NotNew ?eb_NotNew ?ei_NotNew ?ea_TooGreat ?ek_TooGreat ?et_TooGreat ?ed_TooGreat ?ex_TooGreat ?eb_TooGreat ?ei_TooGreat ?ea_BadEffort ?ek_BadEffort ?et_BadEffort ?ed_BadEffort ?ex_BadEffort ?eb_BadEffort ?ei_BadEffort ?ea_BadImage ?ek_BadImage ?et_BadImage ?ed_BadImage ?ex_BadImage ?eb_BadImage ?ei_BadImage ?ea_Unfit ?ek_Unfit ?et_Unfit ?ed_Unfit ?ex_Unfit ?eb_Unfit ?ei_Unfit ?ea_BadText ?ek_BadText ?et_BadText ?ed_BadText ?ea_NotChecked ?ek_NotChecked ?et_NotChecked ?ed_NotChecked ?ea_NotRight ?ek_NotRight ?et_NotRight ?ed_NotRight ?ea_NotLet ?ek_NotLet ?et_NotLet ?ed_NotLet ?ea_BadListing ?ek_BadListing ?et_BadListing ?ed_BadListing ?ea_Refused ?ek_Refused ?et_Refused ?ed_Refused ?xa_xBadText ?xi_xBadText ?xl_xBadText ?xc_xBadText ?xd_xBadText ?xv_xBadText ?xw_xBadText ?xx_xBadText ?xq_xBadText ?xo_xBadText ?xp_xBadText ?xr_xBadText ?xs_xBadText ?xt_xBadText ?xu_xBadText ?xy_xBadText ?xz_xBadText_place ?xA_xBadText ?xB_xBadText ?xC_xBadText ?xD_xBadText ?xa_xNotChecked ?xi_xNotChecked ?xl_xNotChecked ?xc_xNotChecked ?xd_xNotChecked ?xv_xNotChecked ?xw_xNotChecked ?xx_xNotChecked ?xq_xNotChecked ?xo_xNotChecked ?xp_xNotChecked ?xr_xNotChecked ?xs_xNotChecked ?xt_xNotChecked ?xu_xNotChecked ?xy_xNotChecked ?xz_xNotChecked_what ?xA_xNotChecked ?xB_xNotChecked ?xC_xNotChecked ?xD_xNotChecked ?xa_xNotRight ?xi_xNotRight ?xl_xNotRight ?xc_xNotRight ?xd_xNotRight ?xv_xNotRight ?xw_xNotRight ?xx_xNotRight ?xq_xNotRight ?xo_xNotRight ?xp_xNotRight ?xr_xNotRight ?xs_xNotRight ?xt_xNotRight ?xu_xNotRight ?xy_xNotRight ?xz_xNotRight_what ?xA_xNotRight ?xB_xNotRight ?xC_xNotRight ?xD_xNotRight ?xa_xNotLet ?xi_xNotLet ?xl_xNotLet ?xc_xNotLet ?xd_xNotLet ?xv_xNotLet ?xw_xNotLet ?xx_xNotLet ?xq_xNotLet ?xo_xNotLet ?xp_xNotLet ?xr_xNotLet ?xs_xNotLet ?xt_xNotLet ?xu_xNotLet ?xy_xNotLet ?xz_xNotLet_index ?xA_xNotLet ?xB_xNotLet ?xC_xNotLet ?xD_xNotLet ?xa_xBadListing ?xi_xBadListing ?xl_xBadListing ?xc_xBadListing ?xd_xBadListing ?xv_xBadListing ?xw_xBadListing ?xx_xBadListing ?xq_xBadListing ?xo_xBadListing ?xp_xBadListing ?xr_xBadListing ?xs_xBadListing ?xt_xBadListing ?xu_xBadListing ?xy_xBadListing ?xz_xBadListing_line ?xA_xBadListing ?xB_xBadListing ?xC_xBadListing ?xD_xBadListing ?xa_xRefused ?xi_xRefused ?xl_xRefused ?xc_xRefused ?xd_xRefused ?xv_xRefused ?xw_xRefused ?xx_xRefused ?xq_xRefused ?xo_xRefused ?xp_xRefused ?xr_xRefused ?xs_xRefused ?xt_xRefused ?xu_xRefused ?xy_xRefused ?xz_xRefused_name ?xz_xRefused_row ?xz_xRefused_address ?xA_xRefused ?xB_xRefused ?xC_xRefused ?xD_xRefused ?sT_BadText ?sT_NotChecked ?sT_NotRight ?sT_NotLet ?sT_BadListing ?sT_Refused ?sT_BadAmounts ?sT_BadArgs ?sT_BadBook ?sT_BadCore ?sT_BadEffort ?sT_BadGoal ?sT_BadHints ?sT_BadImage ?sT_BadIndex ?sT_BadKind ?sT_BadLevels ?sT_BadLimit ?sT_BadLine ?sT_BadLog ?sT_BadMeasures ?sT_BadName ?sT_BadNeeds ?sT_BadNever ?sT_BadNumber ?sT_BadPlacing ?sT_BadPoint ?sT_BadProgram ?sT_BadRatio ?sT_BadRow ?sT_BadShowings ?sT_BadSteps ?sT_BadSystem ?sT_BadTemplate ?sT_BadVariable ?sT_NoCells ?sT_NotNew ?sT_TooGreat ?sT_Unfit ?sT_ZeroBottom ?sT_PaidError ?sT_ValueError ?xe_place_BadText ?xe_what_NotChecked ?xe_what_NotRight ?xe_index_NotLet ?xe_line_BadListing ?xe_name_Refused ?xe_row_Refused ?xe_address_Refused ?a__law_bag ?l__law_bag ?c__law_bag ?k__law_bag ?a__law_pick ?l__law_pick ?c__law_pick ?k__law_pick ?a__law_word ?l__law_word ?c__law_word ?k__law_word ?a__law_same ?l__law_same ?c__law_same ?k__law_same ?a__law_marks ?l__law_marks ?c__law_marks ?k__law_marks ?a__law_made ?l__law_made ?c__law_made ?k__law_made ?a_law ?l_law ?c_law ?k_law
    (case z_ValueError => k_is)
    (case z_abs => k_is)
    (case z_bool => k_is)
    (case z_int => k_is)
    (case z_isinstance => k_is)
    (case z_len => k_is)
    (case z_list => k_is)
    (case z_range => k_is)
    (case z_str => k_is)
    (case z_tuple => k_is)
    (case xcB => (first | kernel_rfl | decide +kernel | rfl))
    (case xn => k_is)
    (case xt => k_is)
    (case ea_PaidError => k_is)
    (case ek_PaidError => k_is)
    (case et_PaidError => k_is)
    (case ed_PaidError => k_is)
    (case ex_PaidError => k_exc)
    (case eb_PaidError => k_is)
    (case ei_PaidError => k_is)
    (case ea_BadProgram => k_is)
    (case ek_BadProgram => k_is)
    (case et_BadProgram => k_is)
    (case ed_BadProgram => k_is)
    (case ex_BadProgram => k_exc)
    (case eb_BadProgram => k_is)
    (case ei_BadProgram => k_is)
    (case ea_BadCore => k_is)
    (case ek_BadCore => k_is)
    (case et_BadCore => k_is)
    (case ed_BadCore => k_is)
    (case ex_BadCore => k_exc)
    (case eb_BadCore => k_is)
    (case ei_BadCore => k_is)
    (case ea_BadName => k_is)
    (case ek_BadName => k_is)
    (case et_BadName => k_is)
    (case ed_BadName => k_is)
    (case ex_BadName => k_exc)
    (case eb_BadName => k_is)
    (case ei_BadName => k_is)
    (case ea_BadRow => k_is)
    (case ek_BadRow => k_is)
    (case et_BadRow => k_is)
    (case ed_BadRow => k_is)
    (case ex_BadRow => k_exc)
    (case eb_BadRow => k_is)
    (case ei_BadRow => k_is)
    (case ea_BadKind => k_is)
    (case ek_BadKind => k_is)
    (case et_BadKind => k_is)
    (case ed_BadKind => k_is)
    (case ex_BadKind => k_exc)
    (case eb_BadKind => k_is)
    (case ei_BadKind => k_is)
    (case ea_BadArgs => k_is)
    (case ek_BadArgs => k_is)
    (case et_BadArgs => k_is)
    (case ed_BadArgs => k_is)
    (case ex_BadArgs => k_exc)
    (case eb_BadArgs => k_is)
    (case ei_BadArgs => k_is)
    (case ea_BadLimit => k_is)
    (case ek_BadLimit => k_is)
    (case et_BadLimit => k_is)
    (case ed_BadLimit => k_is)
    (case ex_BadLimit => k_exc)
    (case eb_BadLimit => k_is)
    (case ei_BadLimit => k_is)
    (case ea_BadLog => k_is)
    (case ek_BadLog => k_is)
    (case et_BadLog => k_is)
    (case ed_BadLog => k_is)
    (case ex_BadLog => k_exc)
    (case eb_BadLog => k_is)
    (case ei_BadLog => k_is)
    (case ea_BadVariable => k_is)
    (case ek_BadVariable => k_is)
    (case et_BadVariable => k_is)
    (case ed_BadVariable => k_is)
    (case ex_BadVariable => k_exc)
    (case eb_BadVariable => k_is)
    (case ei_BadVariable => k_is)
    (case ea_BadPlacing => k_is)
    (case ek_BadPlacing => k_is)
    (case et_BadPlacing => k_is)
    (case ed_BadPlacing => k_is)
    (case ex_BadPlacing => k_exc)
    (case eb_BadPlacing => k_is)
    (case ei_BadPlacing => k_is)
    (case ea_BadSteps => k_is)
    (case ek_BadSteps => k_is)
    (case et_BadSteps => k_is)
    (case ed_BadSteps => k_is)
    (case ex_BadSteps => k_exc)
    (case eb_BadSteps => k_is)
    (case ei_BadSteps => k_is)
    (case ea_BadMeasures => k_is)
    (case ek_BadMeasures => k_is)
    (case et_BadMeasures => k_is)
    (case ed_BadMeasures => k_is)
    (case ex_BadMeasures => k_exc)
    (case eb_BadMeasures => k_is)
    (case ei_BadMeasures => k_is)
    (case ea_BadNumber => k_is)
    (case ek_BadNumber => k_is)
    (case et_BadNumber => k_is)
    (case ed_BadNumber => k_is)
    (case ex_BadNumber => k_exc)
    (case eb_BadNumber => k_is)
    (case ei_BadNumber => k_is)
    (case ea_BadBook => k_is)
    (case ek_BadBook => k_is)
    (case et_BadBook => k_is)
    (case ed_BadBook => k_is)
    (case ex_BadBook => k_exc)
    (case eb_BadBook => k_is)
    (case ei_BadBook => k_is)
    (case ea_BadIndex => k_is)
    (case ek_BadIndex => k_is)
    (case et_BadIndex => k_is)
    (case ed_BadIndex => k_is)
    (case ex_BadIndex => k_exc)
    (case eb_BadIndex => k_is)
    (case ei_BadIndex => k_is)
    (case ea_BadNever => k_is)
    (case ek_BadNever => k_is)
    (case et_BadNever => k_is)
    (case ed_BadNever => k_is)
    (case ex_BadNever => k_exc)
    (case eb_BadNever => k_is)
    (case ei_BadNever => k_is)
    (case ea_BadGoal => k_is)
    (case ek_BadGoal => k_is)
    (case et_BadGoal => k_is)
    (case ed_BadGoal => k_is)
    (case ex_BadGoal => k_exc)
    (case eb_BadGoal => k_is)
    (case ei_BadGoal => k_is)
    (case ea_BadHints => k_is)
    (case ek_BadHints => k_is)
    (case et_BadHints => k_is)
    (case ed_BadHints => k_is)
    (case ex_BadHints => k_exc)
    (case eb_BadHints => k_is)
    (case ei_BadHints => k_is)
    (case ea_BadShowings => k_is)
    (case ek_BadShowings => k_is)
    (case et_BadShowings => k_is)
    (case ed_BadShowings => k_is)
    (case ex_BadShowings => k_exc)
    (case eb_BadShowings => k_is)
    (case ei_BadShowings => k_is)
    (case ea_BadNeeds => k_is)
    (case ek_BadNeeds => k_is)
    (case et_BadNeeds => k_is)
    (case ed_BadNeeds => k_is)
    (case ex_BadNeeds => k_exc)
    (case eb_BadNeeds => k_is)
    (case ei_BadNeeds => k_is)
    (case ea_BadRatio => k_is)
    (case ek_BadRatio => k_is)
    (case et_BadRatio => k_is)
    (case ed_BadRatio => k_is)
    (case ex_BadRatio => k_exc)
    (case eb_BadRatio => k_is)
    (case ei_BadRatio => k_is)
    (case ea_ZeroBottom => k_is)
    (case ek_ZeroBottom => k_is)
    (case et_ZeroBottom => k_is)
    (case ed_ZeroBottom => k_is)
    (case ex_ZeroBottom => k_exc)
    (case eb_ZeroBottom => k_is)
    (case ei_ZeroBottom => k_is)
    (case ea_BadSystem => k_is)
    (case ek_BadSystem => k_is)
    (case et_BadSystem => k_is)
    (case ed_BadSystem => k_is)
    (case ex_BadSystem => k_exc)
    (case eb_BadSystem => k_is)
    (case ei_BadSystem => k_is)
    (case ea_BadLine => k_is)
    (case ek_BadLine => k_is)
    (case et_BadLine => k_is)
    (case ed_BadLine => k_is)
    (case ex_BadLine => k_exc)
    (case eb_BadLine => k_is)
    (case ei_BadLine => k_is)
    (case ea_BadTemplate => k_is)
    (case ek_BadTemplate => k_is)
    (case et_BadTemplate => k_is)
    (case ed_BadTemplate => k_is)
    (case ex_BadTemplate => k_exc)
    (case eb_BadTemplate => k_is)
    (case ei_BadTemplate => k_is)
    (case ea_BadPoint => k_is)
    (case ek_BadPoint => k_is)
    (case et_BadPoint => k_is)
    (case ed_BadPoint => k_is)
    (case ex_BadPoint => k_exc)
    (case eb_BadPoint => k_is)
    (case ei_BadPoint => k_is)
    (case ea_BadAmounts => k_is)
    (case ek_BadAmounts => k_is)
    (case et_BadAmounts => k_is)
    (case ed_BadAmounts => k_is)
    (case ex_BadAmounts => k_exc)
    (case eb_BadAmounts => k_is)
    (case ei_BadAmounts => k_is)
    (case ea_BadLevels => k_is)
    (case ek_BadLevels => k_is)
    (case et_BadLevels => k_is)
    (case ed_BadLevels => k_is)
    (case ex_BadLevels => k_exc)
    (case eb_BadLevels => k_is)
    (case ei_BadLevels => k_is)
    (case ea_NoCells => k_is)
    (case ek_NoCells => k_is)
    (case et_NoCells => k_is)
    (case ed_NoCells => k_is)
    (case ex_NoCells => k_exc)
    (case eb_NoCells => k_is)
    (case ei_NoCells => k_is)
    (case ea_NotNew => k_is)
    (case ek_NotNew => k_is)
    (case et_NotNew => k_is)
    (case ed_NotNew => k_is)
    (case ex_NotNew => k_exc)
    (case eb_NotNew => k_is)
    (case ei_NotNew => k_is)
    (case ea_TooGreat => k_is)
    (case ek_TooGreat => k_is)
    (case et_TooGreat => k_is)
    (case ed_TooGreat => k_is)
    (case ex_TooGreat => k_exc)
    (case eb_TooGreat => k_is)
    (case ei_TooGreat => k_is)
    (case ea_BadEffort => k_is)
    (case ek_BadEffort => k_is)
    (case et_BadEffort => k_is)
    (case ed_BadEffort => k_is)
    (case ex_BadEffort => k_exc)
    (case eb_BadEffort => k_is)
    (case ei_BadEffort => k_is)
    (case ea_BadImage => k_is)
    (case ek_BadImage => k_is)
    (case et_BadImage => k_is)
    (case ed_BadImage => k_is)
    (case ex_BadImage => k_exc)
    (case eb_BadImage => k_is)
    (case ei_BadImage => k_is)
    (case ea_Unfit => k_is)
    (case ek_Unfit => k_is)
    (case et_Unfit => k_is)
    (case ed_Unfit => k_is)
    (case ex_Unfit => k_exc)
    (case eb_Unfit => k_is)
    (case ei_Unfit => k_is)
    (case ea_BadText => k_is)
    (case ek_BadText => k_is)
    (case et_BadText => k_is)
    (case ed_BadText => k_is)
    (case ea_NotChecked => k_is)
    (case ek_NotChecked => k_is)
    (case et_NotChecked => k_is)
    (case ed_NotChecked => k_is)
    (case ea_NotRight => k_is)
    (case ek_NotRight => k_is)
    (case et_NotRight => k_is)
    (case ed_NotRight => k_is)
    (case ea_NotLet => k_is)
    (case ek_NotLet => k_is)
    (case et_NotLet => k_is)
    (case ed_NotLet => k_is)
    (case ea_BadListing => k_is)
    (case ek_BadListing => k_is)
    (case et_BadListing => k_is)
    (case ed_BadListing => k_is)
    (case ea_Refused => k_is)
    (case ek_Refused => k_is)
    (case et_Refused => k_is)
    (case ed_Refused => k_is)
    (case xa_xBadText => k_is)
    (case xi_xBadText => k_is)
    (case xl_xBadText => k_is)
    (case xc_xBadText => k_is)
    (case xd_xBadText => k_is)
    (case xv_xBadText => rfl)
    (case xw_xBadText => (first | kernel_rfl | decide +kernel | rfl))
    (case xx_xBadText => k_is)
    (case xq_xBadText => (first | kernel_rfl | decide +kernel | rfl))
    (case xo_xBadText => k_is)
    (case xp_xBadText => exact ⟨rfl, rfl⟩)
    (case xr_xBadText => (first | kernel_rfl | decide +kernel | rfl))
    (case xs_xBadText => (first | kernel_rfl | decide +kernel | rfl))
    (case xt_xBadText => k_is)
    (case xu_xBadText => (first | kernel_rfl | decide +kernel | rfl))
    (case xy_xBadText => k_is)
    (case xz_xBadText_place => k_is)
    (case xA_xBadText => k_is)
    (case xB_xBadText => (first | kernel_rfl | decide +kernel | rfl))
    (case xC_xBadText => (first | kernel_rfl | decide +kernel | rfl))
    (case xD_xBadText => (first | kernel_rfl | decide +kernel | rfl))
    (case xa_xNotChecked => k_is)
    (case xi_xNotChecked => k_is)
    (case xl_xNotChecked => k_is)
    (case xc_xNotChecked => k_is)
    (case xd_xNotChecked => k_is)
    (case xv_xNotChecked => rfl)
    (case xw_xNotChecked => (first | kernel_rfl | decide +kernel | rfl))
    (case xx_xNotChecked => k_is)
    (case xq_xNotChecked => (first | kernel_rfl | decide +kernel | rfl))
    (case xo_xNotChecked => k_is)
    (case xp_xNotChecked => exact ⟨rfl, rfl⟩)
    (case xr_xNotChecked => (first | kernel_rfl | decide +kernel | rfl))
    (case xs_xNotChecked => (first | kernel_rfl | decide +kernel | rfl))
    (case xt_xNotChecked => k_is)
    (case xu_xNotChecked => (first | kernel_rfl | decide +kernel | rfl))
    (case xy_xNotChecked => k_is)
    (case xz_xNotChecked_what => k_is)
    (case xA_xNotChecked => k_is)
    (case xB_xNotChecked => (first | kernel_rfl | decide +kernel | rfl))
    (case xC_xNotChecked => (first | kernel_rfl | decide +kernel | rfl))
    (case xD_xNotChecked => (first | kernel_rfl | decide +kernel | rfl))
    (case xa_xNotRight => k_is)
    (case xi_xNotRight => k_is)
    (case xl_xNotRight => k_is)
    (case xc_xNotRight => k_is)
    (case xd_xNotRight => k_is)
    (case xv_xNotRight => rfl)
    (case xw_xNotRight => (first | kernel_rfl | decide +kernel | rfl))
    (case xx_xNotRight => k_is)
    (case xq_xNotRight => (first | kernel_rfl | decide +kernel | rfl))
    (case xo_xNotRight => k_is)
    (case xp_xNotRight => exact ⟨rfl, rfl⟩)
    (case xr_xNotRight => (first | kernel_rfl | decide +kernel | rfl))
    (case xs_xNotRight => (first | kernel_rfl | decide +kernel | rfl))
    (case xt_xNotRight => k_is)
    (case xu_xNotRight => (first | kernel_rfl | decide +kernel | rfl))
    (case xy_xNotRight => k_is)
    (case xz_xNotRight_what => k_is)
    (case xA_xNotRight => k_is)
    (case xB_xNotRight => (first | kernel_rfl | decide +kernel | rfl))
    (case xC_xNotRight => (first | kernel_rfl | decide +kernel | rfl))
    (case xD_xNotRight => (first | kernel_rfl | decide +kernel | rfl))
    (case xa_xNotLet => k_is)
    (case xi_xNotLet => k_is)
    (case xl_xNotLet => k_is)
    (case xc_xNotLet => k_is)
    (case xd_xNotLet => k_is)
    (case xv_xNotLet => rfl)
    (case xw_xNotLet => (first | kernel_rfl | decide +kernel | rfl))
    (case xx_xNotLet => k_is)
    (case xq_xNotLet => (first | kernel_rfl | decide +kernel | rfl))
    (case xo_xNotLet => k_is)
    (case xp_xNotLet => exact ⟨rfl, rfl⟩)
    (case xr_xNotLet => (first | kernel_rfl | decide +kernel | rfl))
    (case xs_xNotLet => (first | kernel_rfl | decide +kernel | rfl))
    (case xt_xNotLet => k_is)
    (case xu_xNotLet => (first | kernel_rfl | decide +kernel | rfl))
    (case xy_xNotLet => k_is)
    (case xz_xNotLet_index => k_is)
    (case xA_xNotLet => k_is)
    (case xB_xNotLet => (first | kernel_rfl | decide +kernel | rfl))
    (case xC_xNotLet => (first | kernel_rfl | decide +kernel | rfl))
    (case xD_xNotLet => (first | kernel_rfl | decide +kernel | rfl))
    (case xa_xBadListing => k_is)
    (case xi_xBadListing => k_is)
    (case xl_xBadListing => k_is)
    (case xc_xBadListing => k_is)
    (case xd_xBadListing => k_is)
    (case xv_xBadListing => rfl)
    (case xw_xBadListing => (first | kernel_rfl | decide +kernel | rfl))
    (case xx_xBadListing => k_is)
    (case xq_xBadListing => (first | kernel_rfl | decide +kernel | rfl))
    (case xo_xBadListing => k_is)
    (case xp_xBadListing => exact ⟨rfl, rfl⟩)
    (case xr_xBadListing => (first | kernel_rfl | decide +kernel | rfl))
    (case xs_xBadListing => (first | kernel_rfl | decide +kernel | rfl))
    (case xt_xBadListing => k_is)
    (case xu_xBadListing => (first | kernel_rfl | decide +kernel | rfl))
    (case xy_xBadListing => k_is)
    (case xz_xBadListing_line => k_is)
    (case xA_xBadListing => k_is)
    (case xB_xBadListing => (first | kernel_rfl | decide +kernel | rfl))
    (case xC_xBadListing => (first | kernel_rfl | decide +kernel | rfl))
    (case xD_xBadListing => (first | kernel_rfl | decide +kernel | rfl))
    (case xa_xRefused => k_is)
    (case xi_xRefused => k_is)
    (case xl_xRefused => k_is)
    (case xc_xRefused => k_is)
    (case xd_xRefused => k_is)
    (case xv_xRefused => rfl)
    (case xw_xRefused => (first | kernel_rfl | decide +kernel | rfl))
    (case xx_xRefused => k_is)
    (case xq_xRefused => (first | kernel_rfl | decide +kernel | rfl))
    (case xo_xRefused => k_is)
    (case xp_xRefused => exact ⟨rfl, rfl⟩)
    (case xr_xRefused => (first | kernel_rfl | decide +kernel | rfl))
    (case xs_xRefused => (first | kernel_rfl | decide +kernel | rfl))
    (case xt_xRefused => k_is)
    (case xu_xRefused => (first | kernel_rfl | decide +kernel | rfl))
    (case xy_xRefused => k_is)
    (case xz_xRefused_name => k_is)
    (case xz_xRefused_row => k_is)
    (case xz_xRefused_address => k_is)
    (case xA_xRefused => k_is)
    (case xB_xRefused => (first | kernel_rfl | decide +kernel | rfl))
    (case xC_xRefused => (first | kernel_rfl | decide +kernel | rfl))
    (case xD_xRefused => (first | kernel_rfl | decide +kernel | rfl))
    (case sT_BadText => (first | kernel_rfl | decide +kernel | rfl))
    (case sT_NotChecked => (first | kernel_rfl | decide +kernel | rfl))
    (case sT_NotRight => (first | kernel_rfl | decide +kernel | rfl))
    (case sT_NotLet => (first | kernel_rfl | decide +kernel | rfl))
    (case sT_BadListing => (first | kernel_rfl | decide +kernel | rfl))
    (case sT_Refused => (first | kernel_rfl | decide +kernel | rfl))
    (case sT_BadAmounts => (first | kernel_rfl | decide +kernel | rfl))
    (case sT_BadArgs => (first | kernel_rfl | decide +kernel | rfl))
    (case sT_BadBook => (first | kernel_rfl | decide +kernel | rfl))
    (case sT_BadCore => (first | kernel_rfl | decide +kernel | rfl))
    (case sT_BadEffort => (first | kernel_rfl | decide +kernel | rfl))
    (case sT_BadGoal => (first | kernel_rfl | decide +kernel | rfl))
    (case sT_BadHints => (first | kernel_rfl | decide +kernel | rfl))
    (case sT_BadImage => (first | kernel_rfl | decide +kernel | rfl))
    (case sT_BadIndex => (first | kernel_rfl | decide +kernel | rfl))
    (case sT_BadKind => (first | kernel_rfl | decide +kernel | rfl))
    (case sT_BadLevels => (first | kernel_rfl | decide +kernel | rfl))
    (case sT_BadLimit => (first | kernel_rfl | decide +kernel | rfl))
    (case sT_BadLine => (first | kernel_rfl | decide +kernel | rfl))
    (case sT_BadLog => (first | kernel_rfl | decide +kernel | rfl))
    (case sT_BadMeasures => (first | kernel_rfl | decide +kernel | rfl))
    (case sT_BadName => (first | kernel_rfl | decide +kernel | rfl))
    (case sT_BadNeeds => (first | kernel_rfl | decide +kernel | rfl))
    (case sT_BadNever => (first | kernel_rfl | decide +kernel | rfl))
    (case sT_BadNumber => (first | kernel_rfl | decide +kernel | rfl))
    (case sT_BadPlacing => (first | kernel_rfl | decide +kernel | rfl))
    (case sT_BadPoint => (first | kernel_rfl | decide +kernel | rfl))
    (case sT_BadProgram => (first | kernel_rfl | decide +kernel | rfl))
    (case sT_BadRatio => (first | kernel_rfl | decide +kernel | rfl))
    (case sT_BadRow => (first | kernel_rfl | decide +kernel | rfl))
    (case sT_BadShowings => (first | kernel_rfl | decide +kernel | rfl))
    (case sT_BadSteps => (first | kernel_rfl | decide +kernel | rfl))
    (case sT_BadSystem => (first | kernel_rfl | decide +kernel | rfl))
    (case sT_BadTemplate => (first | kernel_rfl | decide +kernel | rfl))
    (case sT_BadVariable => (first | kernel_rfl | decide +kernel | rfl))
    (case sT_NoCells => (first | kernel_rfl | decide +kernel | rfl))
    (case sT_NotNew => (first | kernel_rfl | decide +kernel | rfl))
    (case sT_TooGreat => (first | kernel_rfl | decide +kernel | rfl))
    (case sT_Unfit => (first | kernel_rfl | decide +kernel | rfl))
    (case sT_ZeroBottom => (first | kernel_rfl | decide +kernel | rfl))
    (case sT_PaidError => (first | kernel_rfl | decide +kernel | rfl))
    (case sT_ValueError => (first | kernel_rfl | decide +kernel | rfl))
    (case xe_place_BadText => (first | kernel_rfl | decide +kernel | rfl))
    (case xe_what_NotChecked => (first | kernel_rfl | decide +kernel | rfl))
    (case xe_what_NotRight => (first | kernel_rfl | decide +kernel | rfl))
    (case xe_index_NotLet => (first | kernel_rfl | decide +kernel | rfl))
    (case xe_line_BadListing => (first | kernel_rfl | decide +kernel | rfl))
    (case xe_name_Refused => (first | kernel_rfl | decide +kernel | rfl))
    (case xe_row_Refused => (first | kernel_rfl | decide +kernel | rfl))
    (case xe_address_Refused => (first | kernel_rfl | decide +kernel | rfl))
    (case a__law_bag => k_is)
    (case l__law_bag => k_is)
    (case c__law_bag => k_is)
    (case k__law_bag => k_is)
    (case a__law_pick => k_is)
    (case l__law_pick => k_is)
    (case c__law_pick => k_is)
    (case k__law_pick => k_is)
    (case a__law_word => k_is)
    (case l__law_word => k_is)
    (case c__law_word => k_is)
    (case k__law_word => k_is)
    (case a__law_same => k_is)
    (case l__law_same => k_is)
    (case c__law_same => k_is)
    (case k__law_same => k_is)
    (case a__law_marks => k_is)
    (case l__law_marks => k_is)
    (case c__law_marks => k_is)
    (case k__law_marks => k_is)
    (case a__law_made => k_is)
    (case l__law_made => k_is)
    (case c__law_made => k_is)
    (case k__law_made => k_is)
    (case a_law => k_is)
    (case l_law => k_is)
    (case c_law => k_is)
    (case k_law => k_is)
